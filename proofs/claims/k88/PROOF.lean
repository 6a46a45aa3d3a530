import PyProof.Rows.All
import Wide.All
import OpenK.AllK
import Wide.FinOn
import HandS.ForMost
import HandS.CallSlots
import HandS.Wide
import HandS.IsInst
import HandS.Deep
import HandS.Evl
import HandS.Zip
import HandS.TupAny
import HandS.Style
import HandS.Iter
import PySem.Challenge.RW_shapewright_k88_values_agree
set_option Elab.async false
set_option maxRecDepth 100000
set_option linter.all false
set_option maxHeartbeats 4000000
/-! trees of tuples: what a value stands for, whatever else the heap does -/
namespace GD
open PySem L2
theorem iteN {b : Bool} {A B : Prop} (h : b = false) (q : B) : if b = true then A else B := by
  subst h
  rw [if_neg (by decide)]
  exact q
theorem iteY {b : Bool} {A B : Prop} (h : b = true) (q : A) : if b = true then A else B := by
  rw [if_pos h]
  exact q
section
variable {K : PySem.W.Frag}
mutual
inductive Rp (K : PySem.W.Frag) (H : Hp) : V → PyData → Prop
  | non : Rp K H .non .none
  | bl (b : Bool) : Rp K H (.bl b) (.bool b)
  | int (i : Int) : Rp K H (.int i) (.int i)
  | str (x : Str) : PyData.strOk x = true → Rp K H (.str x) (.str x)
  | tup {a : Addr} {xs : List V} {ds : List PyData} : SqT K H a xs → RpAll K H xs ds → Rp K H (.ref a) (.tuple ds)
inductive RpAll (K : PySem.W.Frag) (H : Hp) : List V → List PyData → Prop
  | nil : RpAll K H [] []
  | cons {v : V} {vs : List V} {d : PyData} {ds : List PyData} : Rp K H v d → RpAll K H vs ds → RpAll K H (v :: vs) (d :: ds)
end
/-- the tuples stay -/
def KT (H H' : Hp) : Prop := ∀ a xs, Rd H a (.tup xs) → Rd H' a (.tup xs)
theorem KT.refl {H : Hp} : KT H H := fun _ _ h => h
theorem KT.trans {H H1 H2 : Hp} (h : KT H H1) (k : KT H1 H2) : KT H H2 := fun a xs q => k a xs (h a xs q)
theorem KT.sqt {H H' : Hp} (k : KT H H') {a : Addr} {xs : List V} (h : SqT K H a xs) : SqT K H' a xs := h.imp (k a xs) id
mutual
theorem Rp.keep {H H' : Hp} (k : KT H H') : ∀ (d : PyData) (v : V), Rp K H v d → Rp K H' v d
  | .none, _, h => by cases h; exact .non
  | .bool _, _, h => by cases h; exact .bl _
  | .int _, _, h => by cases h; exact .int _
  | .str _, _, h => by
    cases h with
    | str x hx => exact .str _ hx
  | .list _, _, h => by cases h
  | .tuple ds, _, h => by
    cases h with
    | tup s r => exact .tup (k.sqt s) (RpAll.keep k ds _ r)
  | .dict _, _, h => by cases h
theorem RpAll.keep {H H' : Hp} (k : KT H H') : ∀ (ds : List PyData) (vs : List V), RpAll K H vs ds → RpAll K H' vs ds
  | [], _, h => by cases h; exact .nil
  | d :: ds, _, h => by
    cases h with
    | cons a r => exact .cons (Rp.keep k d _ a) (RpAll.keep k ds _ r)
end
theorem Rp.on {H H' : Hp} {d : PyData} {v : V} (h : Rp K H v d) (k : KT H H') : Rp K H' v d := Rp.keep k d v h
theorem RpAll.on {H H' : Hp} {ds : List PyData} {vs : List V} (h : RpAll K H vs ds) (k : KT H H') : RpAll K H' vs ds := RpAll.keep k ds vs h
mutual
theorem Rp.dp' {H : Hp} : ∀ (d : PyData) (v : V), Rp K H v d → Dp K H v d
  | .none, _, h => by cases h; exact .non
  | .bool _, _, h => by cases h; exact .bl _
  | .int _, _, h => by cases h; exact .int _
  | .str _, _, h => by cases h; exact .str _
  | .list _, _, h => by cases h
  | .tuple ds, _, h => by
    cases h with
    | tup s r => exact .tup s (RpAll.dp' ds _ r)
  | .dict _, _, h => by cases h
theorem RpAll.dp' {H : Hp} : ∀ (ds : List PyData) (vs : List V), RpAll K H vs ds → DpAll K H vs ds
  | [], _, h => by cases h; exact .nil
  | d :: ds, _, h => by
    cases h with
    | cons a r => exact .cons (Rp.dp' d _ a) (RpAll.dp' ds _ r)
end
theorem Rp.dp {H : Hp} {d : PyData} {v : V} (h : Rp K H v d) : Dp K H v d := Rp.dp' d v h
mutual
theorem Rp.lay' {H : Hp} : ∀ (d : PyData) (v : V), Rp K H v d → d.canLay0 = true
  | .none, _, h => by simp [PyData.canLay0]
  | .bool _, _, h => by simp [PyData.canLay0]
  | .int _, _, h => by simp [PyData.canLay0]
  | .str _, _, h => by
    cases h with
    | str x hx => simpa [PyData.canLay0] using hx
  | .list _, _, h => by cases h
  | .tuple ds, _, h => by
    cases h with
    | tup s r => simpa [PyData.canLay0] using RpAll.lay' ds _ r
  | .dict _, _, h => by cases h
theorem RpAll.lay' {H : Hp} : ∀ (ds : List PyData) (vs : List V), RpAll K H vs ds → PyData.canLayAll0 ds = true
  | [], _, h => by simp [PyData.canLayAll0]
  | d :: ds, _, h => by
    cases h with
    | cons a r => simp [PyData.canLayAll0, Rp.lay' d _ a, RpAll.lay' ds _ r]
end
theorem RpAll.length {H : Hp} : ∀ {vs : List V} {ds : List PyData}, RpAll K H vs ds → vs.length = ds.length
  | _, _, .nil => rfl
  | _, _, .cons _ r => by simp [RpAll.length r]
theorem RpAll.get {H : Hp} : ∀ {vs : List V} {ds : List PyData} {i : Nat} {d : PyData}, RpAll K H vs ds → ds[i]? = some d → ∃ v, vs[i]? = some v ∧ Rp K H v d
  | _, _, _, _, .nil, e => by simp at e
  | _, _, 0, _, .cons h _, e => by simp at e; subst e; exact ⟨_, rfl, h⟩
  | _, _, i + 1, _, .cons _ r, e => by
    obtain ⟨v, e1, h⟩ := r.get (i := i) (by simpa using e)
    exact ⟨v, by simpa using e1, h⟩
theorem RpAll.getV {H : Hp} : ∀ {vs : List V} {ds : List PyData} {i : Nat} {v : V}, RpAll K H vs ds → vs[i]? = some v → ∃ d, ds[i]? = some d ∧ Rp K H v d
  | _, _, _, _, .nil, e => by simp at e
  | _, _, 0, _, .cons h _, e => by simp at e; subst e; exact ⟨_, rfl, h⟩
  | _, _, i + 1, _, .cons _ r, e => by
    obtain ⟨v, e1, h⟩ := r.getV (i := i) (by simpa using e)
    exact ⟨v, by simpa using e1, h⟩
theorem RpAll.app {H : Hp} : ∀ {vs ws : List V} {ds es : List PyData}, RpAll K H vs ds → RpAll K H ws es → RpAll K H (vs ++ ws) (ds ++ es)
  | _, _, _, _, .nil, r => r
  | _, _, _, _, .cons h t, r => .cons h (t.app r)
theorem RpAll.take {H : Hp} : ∀ {vs : List V} {ds : List PyData} (n : Nat), RpAll K H vs ds → RpAll K H (vs.take n) (ds.take n)
  | _, _, 0, _ => by simp; exact .nil
  | _, _, n + 1, .nil => by simp; exact .nil
  | _, _, n + 1, .cons h t => by simp; exact .cons h (t.take n)
theorem RpAll.drop {H : Hp} : ∀ {vs : List V} {ds : List PyData} (n : Nat), RpAll K H vs ds → RpAll K H (vs.drop n) (ds.drop n)
  | _, _, 0, r => by simpa using r
  | _, _, n + 1, .nil => by simp; exact .nil
  | _, _, n + 1, .cons h t => by simpa using t.drop n
theorem RpAll.set {H : Hp} : ∀ {vs : List V} {ds : List PyData} (n : Nat) {v : V} {d : PyData}, RpAll K H vs ds → Rp K H v d → RpAll K H (vs.set n v) (ds.set n d)
  | _, _, _, _, _, .nil, _ => by simp; exact .nil
  | _, _, 0, _, _, .cons _ t, k => by simp; exact .cons k t
  | _, _, n + 1, _, _, .cons h t, k => by simp; exact .cons h (t.set n k)
/-! ### readings -/
theorem Rp.tup_inv {H : Hp} {v : V} {ds : List PyData} (h : Rp K H v (.tuple ds)) : ∃ a xs, v = .ref a ∧ SqT K H a xs ∧ RpAll K H xs ds := by
  cases h with
  | tup s r => exact ⟨_, _, rfl, s, r⟩
theorem Rp.str_inv {H : Hp} {v : V} {x : Str} (h : Rp K H v (.str x)) : v = .str x := by cases h; rfl
theorem Rp.int_inv {H : Hp} {v : V} {x : Int} (h : Rp K H v (.int x)) : v = .int x := by cases h; rfl
theorem Rp.non_inv {H : Hp} {v : V} (h : Rp K H v .none) : v = .non := by cases h; rfl
theorem Rp.bl_inv {H : Hp} {v : V} {b : Bool} (h : Rp K H v (.bool b)) : v = .bl b := by cases h; rfl
theorem RpAll.nil_inv {H : Hp} {vs : List V} (h : RpAll K H vs []) : vs = [] := by cases h; rfl
theorem RpAll.cons_inv {H : Hp} {vs : List V} {d : PyData} {ds : List PyData} (h : RpAll K H vs (d :: ds)) : ∃ v ws, vs = v :: ws ∧ Rp K H v d ∧ RpAll K H ws ds := by
  cases h with
  | cons a r => exact ⟨_, _, rfl, a, r⟩
theorem Rp.mk {H : Hp} {a : Addr} {xs : List V} {ds : List PyData} (s : H a = some (.tup xs)) (r : RpAll K H xs ds) : Rp K H (.ref a) (.tuple ds) := .tup (.inl (Rd.of s)) r
theorem Rp.flat {H : Hp} {d : PyData} {a : Addr} (h : Rp K H (.ref a) d) : ∃ ds, d = .tuple ds := by
  cases h with
  | tup _ _ => exact ⟨_, rfl⟩
theorem at0 {x : V} {ws : List V} : atI (x :: ws) 0 = some x := atI_nat (j := 0) rfl
theorem at1 {x y : V} {ws : List V} : atI (x :: y :: ws) 1 = some y := atI_nat (j := 1) rfl
theorem at2 {x y z : V} {ws : List V} : atI (x :: y :: z :: ws) 2 = some z := atI_nat (j := 2) rfl
theorem at3 {x y z u : V} {ws : List V} : atI (x :: y :: z :: u :: ws) 3 = some u := atI_nat (j := 3) rfl
theorem small_lt {n : Nat} (h : n < 100000) : n < sizeLine := Nat.lt_of_lt_of_le h (by decide)
theorem small_le {n : Nat} (h : n ≤ 100000) : n ≤ sizeLine := Nat.le_trans h (by decide)
/-! ### what stays -/
theorem KT.same {H H' : Hp} (h : ∀ a o, H a = some o → H' a = some o) : KT H H' := fun a xs q => by
  rcases q with q | ⟨o, q⟩
  · exact .inl (h _ _ q)
  · exact .inr ⟨o, h _ _ q⟩
theorem KT.upd_new {H : Hp} {p : Addr} {o : HO} (h : H p = none) : KT H (upd H p o) := KT.same fun a u e => by
  rw [upd_ne (ne_of_none e h)]
  exact e
/-- no tuple -/
def NT (H : Hp) (p : Addr) : Prop := ∀ xs, ¬ Rd H p (.tup xs)
theorem NT.lst {H : Hp} {p : Addr} {l : List V} (h : H p = some (.lst l)) : NT H p := fun xs q => by
  rcases q with q | ⟨o, q⟩ <;> rw [h] at q <;> cases q
theorem NT.dk {H : Hp} {p : Addr} {l : List (Key × V)} (h : H p = some (.dK l)) : NT H p := fun xs q => by
  rcases q with q | ⟨o, q⟩ <;> rw [h] at q <;> cases q
theorem KT.upd_lst {H : Hp} {p : Addr} {o : HO} (h : NT H p) : KT H (upd H p o) := fun a xs q => by
  have n : a ≠ p := fun z => by
    rw [z] at q
    exact h xs q
  unfold Rd
  rw [upd_ne n]
  exact q
/-! ### constants of the module -/
def rdK (K : PySem.W.Frag) : Nat → Value → Option PyData
  | 0, _ => none
  | n + 1, v => match v with
    | .none => some .none
    | .bool b => some (.bool b)
    | .int i _ => some (.int i)
    | .str x _ => if PyData.strOk x = true then some (.str x) else none
    | .ref a => match K.lookup a with
      | some ⟨.type "tuple", _, .seq its _, _⟩ => if its.size ≤ sizeLine then (its.toList.mapM (rdK K n)).map .tuple else none
      | _ => none
    | _ => none
theorem rdAll {n : Nat} (ih : ∀ v d, rdK K n v = some d → ∃ x, RelV x v ∧ ∀ H, Rp K H x d) : ∀ (us : List Value) (ds : List PyData), us.mapM (rdK K n) = some ds → ∃ xs, Vals xs us ∧ ∀ H, RpAll K H xs ds
  | [], ds, e => by
    simp at e
    subst e
    exact ⟨[], .nil, fun _ => .nil⟩
  | u :: us, ds, e => by
    rw [List.mapM_cons] at e
    cases e1 : rdK K n u with
    | none => rw [e1] at e; cases e
    | some d =>
      rw [e1] at e
      cases e2 : us.mapM (rdK K n) with
      | none => simp [e2] at e
      | some ds' =>
        simp [e2] at e
        subst e
        obtain ⟨x, r, k⟩ := ih _ _ e1
        obtain ⟨xs, rs, ks⟩ := rdAll ih us ds' e2
        exact ⟨x :: xs, .cons r rs, fun H => .cons (k H) (ks H)⟩
theorem rdK_ok : ∀ (n : Nat) (v : Value) (d : PyData), rdK K n v = some d → ∃ x, RelV x v ∧ ∀ H, Rp K H x d
  | 0, _, _, e => by cases e
  | n + 1, v, d, e => by
    unfold rdK at e
    split at e
    · cases e; exact ⟨.non, rfl, fun _ => .non⟩
    · cases e; exact ⟨.bl _, rfl, fun _ => .bl _⟩
    · cases e; exact ⟨.int _, ⟨_, rfl⟩, fun _ => .int _⟩
    · split at e
      · rename_i h
        cases e
        exact ⟨.str _, ⟨_, rfl⟩, fun _ => .str _ h⟩
      · cases e
    · rename_i a
      split at e
      · rename_i dd its nn sl hl
        split at e
        · rename_i hs
          cases e1 : its.toList.mapM (rdK K n) with
          | none => rw [e1] at e; cases e
          | some ds =>
            rw [e1] at e
            cases e
            obtain ⟨xs, rs, ks⟩ := rdAll (rdK_ok n) _ _ e1
            exact ⟨.ref a, rfl, fun H => .tup (.inr ⟨_, its, nn, hl, rfl, rfl, hs, rs⟩) (ks H)⟩
        · cases e
      · cases e
    · cases e
theorem rdK_ref {n : Nat} {a : Addr} {d : PyData} (e : rdK K n (.ref a) = some d) (H : Hp) : Rp K H (.ref a) d := by
  obtain ⟨x, r, k⟩ := rdK_ok n _ d e
  cases x <;> first
    | (cases r; exact k H)
    | (cases r; done)
    | (obtain ⟨t, r⟩ := r; cases r)
end
/-! ### == where one side is small -/
section
variable {X : Cx}
/-- x == y, y a small datum -/
def rEqS (K : PySem.W.Frag) : R2 := fun x y H Q => ∃ d e, Rp K H x d ∧ Rp K H y e ∧ e.depth ≤ 60 ∧ Q (.bl (PyData.eqv d e)) H
def rNeS (K : PySem.W.Frag) : R2 := fun x y H Q => ∃ d e, Rp K H x d ∧ Rp K H y e ∧ e.depth ≤ 60 ∧ Q (.bl (!PyData.eqv d e)) H
theorem op_eqS (hu : X.A.units + 64 < cLine) : OpR X (compareOp .Eq) (rEqS X.K) := by
  intro pins s σ H x y v u Q I rx ry h
  obtain ⟨d, e, hd, he, hs, q⟩ := h
  obtain ⟨as, r1⟩ := Dp.reads I d x v hd.dp rx
  obtain ⟨bs, r2⟩ := Dp.reads I e y u he.dp ry
  exact SeqAt.compareEq_reads r1 r2 (Rp.lay' _ _ hd) (Rp.lay' _ _ he) (by have := Nat.min_le_right d.depth e.depth; omega) ⟨.bl _, H, I, rfl, q⟩
end
end GD

set_option Elab.async false
set_option maxRecDepth 100000
set_option linter.all false
set_option maxHeartbeats 4000000
namespace K88
open PySem L2 GD
theorem ixl {X : Cx} {K : PySem.W.Frag} (h : X.K = K) : IxR X (rIxL K) := by
  subst h
  exact ix_list
theorem ixt {X : Cx} {K : PySem.W.Frag} (h : X.K = K) : IxR X (rIxT K) := by
  subst h
  exact ix_tup
theorem hu65 {k : Nat} {A : Around} (hr : Room k A) : A.units + 65 < cLine := by
  have := hr.un
  omega
theorem tYes_do {σ : L2.St} {H : Hp} {f g : Hp → Prop} (h : f H) : tYes σ H (fun b H3 => if b = true then f H3 else g H3) := by
  show (if true = true then f H else g H)
  rw [if_pos rfl]
  exact h
def BASIS_D : PyData := .tuple [.tuple [.tuple [.str "shape", .str "int", .int 0, .tuple [.str "c", .int 0, .tuple []]], .tuple [.str "shape", .str "unit", .int 0, .tuple [.str "c", .int 1, .tuple []]], .tuple [.str "shape", .str "exn", .int 0, .tuple [.str "c", .int 2, .tuple []]], .tuple [.str "shape", .str "ref", .int 1, .tuple [.str "c", .int 3, .tuple [.tuple [.str "v", .int 0]]]], .tuple [.str "shape", .str "bool", .int 0, .tuple [.str "c", .int 4, .tuple []]], .tuple [.str "shape", .str "list", .int 1, .tuple [.str "c", .int 5, .tuple [.tuple [.str "v", .int 0]]]], .tuple [.str "shape", .str "option", .int 1, .tuple [.str "c", .int 6, .tuple [.tuple [.str "v", .int 0]]]], .tuple [.str "shape", .str "order", .int 0, .tuple [.str "c", .int 7, .tuple []]], .tuple [.str "con", .str "False", .int 0, .none, .tuple [.str "c", .int 4, .tuple []], .int 0, .tuple [.tuple [.str "False", .bool false], .tuple [.str "True", .bool false]]], .tuple [.str "con", .str "True", .int 0, .none, .tuple [.str "c", .int 4, .tuple []], .int 1, .tuple [.tuple [.str "False", .bool false], .tuple [.str "True", .bool false]]], .tuple [.str "con", .str "Nil", .int 1, .none, .tuple [.str "c", .int 5, .tuple [.tuple [.str "v", .int 0]]], .int 0, .tuple [.tuple [.str "Nil", .bool false], .tuple [.str "Cons", .bool true]]], .tuple [.str "con", .str "Cons", .int 1, .tuple [.str "t", .tuple [.tuple [.str "v", .int 0], .tuple [.str "c", .int 5, .tuple [.tuple [.str "v", .int 0]]]]], .tuple [.str "c", .int 5, .tuple [.tuple [.str "v", .int 0]]], .int 1, .tuple [.tuple [.str "Nil", .bool false], .tuple [.str "Cons", .bool true]]], .tuple [.str "con", .str "None", .int 1, .none, .tuple [.str "c", .int 6, .tuple [.tuple [.str "v", .int 0]]], .int 0, .tuple [.tuple [.str "None", .bool false], .tuple [.str "Some", .bool true]]], .tuple [.str "con", .str "Some", .int 1, .tuple [.str "v", .int 0], .tuple [.str "c", .int 6, .tuple [.tuple [.str "v", .int 0]]], .int 1, .tuple [.tuple [.str "None", .bool false], .tuple [.str "Some", .bool true]]], .tuple [.str "con", .str "Less", .int 0, .none, .tuple [.str "c", .int 7, .tuple []], .int 0, .tuple [.tuple [.str "Less", .bool false], .tuple [.str "Equal", .bool false], .tuple [.str "Greater", .bool false]]], .tuple [.str "con", .str "Equal", .int 0, .none, .tuple [.str "c", .int 7, .tuple []], .int 1, .tuple [.tuple [.str "Less", .bool false], .tuple [.str "Equal", .bool false], .tuple [.str "Greater", .bool false]]], .tuple [.str "con", .str "Greater", .int 0, .none, .tuple [.str "c", .int 7, .tuple []], .int 2, .tuple [.tuple [.str "Less", .bool false], .tuple [.str "Equal", .bool false], .tuple [.str "Greater", .bool false]]], .tuple [.str "exn", .str "Match", .none], .tuple [.str "exn", .str "Bind", .none], .tuple [.str "exn", .str "Div", .none], .tuple [.str "exn", .str "Equality", .none], .tuple [.str "val", .str "+", .tuple [.int 0, .tuple [.str "f", .tuple [.str "t", .tuple [.tuple [.str "c", .int 0, .tuple []], .tuple [.str "c", .int 0, .tuple []]]], .tuple [.str "c", .int 0, .tuple []]]]], .tuple [.str "val", .str "-", .tuple [.int 0, .tuple [.str "f", .tuple [.str "t", .tuple [.tuple [.str "c", .int 0, .tuple []], .tuple [.str "c", .int 0, .tuple []]]], .tuple [.str "c", .int 0, .tuple []]]]], .tuple [.str "val", .str "*", .tuple [.int 0, .tuple [.str "f", .tuple [.str "t", .tuple [.tuple [.str "c", .int 0, .tuple []], .tuple [.str "c", .int 0, .tuple []]]], .tuple [.str "c", .int 0, .tuple []]]]], .tuple [.str "val", .str "div", .tuple [.int 0, .tuple [.str "f", .tuple [.str "t", .tuple [.tuple [.str "c", .int 0, .tuple []], .tuple [.str "c", .int 0, .tuple []]]], .tuple [.str "c", .int 0, .tuple []]]]], .tuple [.str "val", .str "mod", .tuple [.int 0, .tuple [.str "f", .tuple [.str "t", .tuple [.tuple [.str "c", .int 0, .tuple []], .tuple [.str "c", .int 0, .tuple []]]], .tuple [.str "c", .int 0, .tuple []]]]], .tuple [.str "val", .str "<", .tuple [.int 0, .tuple [.str "f", .tuple [.str "t", .tuple [.tuple [.str "c", .int 0, .tuple []], .tuple [.str "c", .int 0, .tuple []]]], .tuple [.str "c", .int 4, .tuple []]]]], .tuple [.str "val", .str "<=", .tuple [.int 0, .tuple [.str "f", .tuple [.str "t", .tuple [.tuple [.str "c", .int 0, .tuple []], .tuple [.str "c", .int 0, .tuple []]]], .tuple [.str "c", .int 4, .tuple []]]]], .tuple [.str "val", .str ">", .tuple [.int 0, .tuple [.str "f", .tuple [.str "t", .tuple [.tuple [.str "c", .int 0, .tuple []], .tuple [.str "c", .int 0, .tuple []]]], .tuple [.str "c", .int 4, .tuple []]]]], .tuple [.str "val", .str ">=", .tuple [.int 0, .tuple [.str "f", .tuple [.str "t", .tuple [.tuple [.str "c", .int 0, .tuple []], .tuple [.str "c", .int 0, .tuple []]]], .tuple [.str "c", .int 4, .tuple []]]]], .tuple [.str "val", .str "=", .tuple [.int 1, .tuple [.str "f", .tuple [.str "t", .tuple [.tuple [.str "v", .int 0], .tuple [.str "v", .int 0]]], .tuple [.str "c", .int 4, .tuple []]]]], .tuple [.str "val", .str "<>", .tuple [.int 1, .tuple [.str "f", .tuple [.str "t", .tuple [.tuple [.str "v", .int 0], .tuple [.str "v", .int 0]]], .tuple [.str "c", .int 4, .tuple []]]]], .tuple [.str "val", .str "~", .tuple [.int 0, .tuple [.str "f", .tuple [.str "c", .int 0, .tuple []], .tuple [.str "c", .int 0, .tuple []]]]], .tuple [.str "val", .str "ref", .tuple [.int 1, .tuple [.str "f", .tuple [.str "v", .int 0], .tuple [.str "c", .int 3, .tuple [.tuple [.str "v", .int 0]]]]]], .tuple [.str "val", .str "!", .tuple [.int 1, .tuple [.str "f", .tuple [.str "c", .int 3, .tuple [.tuple [.str "v", .int 0]]], .tuple [.str "v", .int 0]]]], .tuple [.str "val", .str ":=", .tuple [.int 1, .tuple [.str "f", .tuple [.str "t", .tuple [.tuple [.str "c", .int 3, .tuple [.tuple [.str "v", .int 0]]], .tuple [.str "v", .int 0]]], .tuple [.str "c", .int 1, .tuple []]]]], .tuple [.str "val", .str "print", .tuple [.int 0, .tuple [.str "f", .tuple [.str "c", .int 0, .tuple []], .tuple [.str "c", .int 1, .tuple []]]]], .tuple [.str "val", .str "not", .tuple [.int 0, .tuple [.str "f", .tuple [.str "c", .int 4, .tuple []], .tuple [.str "c", .int 4, .tuple []]]]], .tuple [.str "val", .str "@", .tuple [.int 1, .tuple [.str "f", .tuple [.str "t", .tuple [.tuple [.str "c", .int 5, .tuple [.tuple [.str "v", .int 0]]], .tuple [.str "c", .int 5, .tuple [.tuple [.str "v", .int 0]]]]], .tuple [.str "c", .int 5, .tuple [.tuple [.str "v", .int 0]]]]]]], .tuple [.int 0, .int 0, .int 0, .int 1, .int 0, .int 1, .int 1, .int 0]]
def INT_D : PyData := .tuple [.str "c", .int 0, .tuple []]
def UNIT_D : PyData := .tuple [.str "c", .int 1, .tuple []]
def EXN_D : PyData := .tuple [.str "c", .int 2, .tuple []]
def topS (i : Nat) : Stmt := PySem.Challenge.pw_shapewright_k88_values_agree.main.body.getD i (.Pass ⟨0, 0, 0, 0⟩)
abbrev s_direct_parts : Stmt := topS 6
abbrev N_direct_parts : List Str := ["shape"]
theorem sc_direct_parts : FnScope N_direct_parts ["shape"] (defScope s_direct_parts) := ⟨rfl, rfl, rfl, by decide +kernel, rfl, by decide +kernel, by decide +kernel⟩
abbrev s_with_parts : Stmt := topS 7
abbrev N_with_parts : List Str := ["shape", "new_parts"]
theorem sc_with_parts : FnScope N_with_parts ["shape", "new_parts"] (defScope s_with_parts) := ⟨rfl, rfl, rfl, by decide +kernel, rfl, by decide +kernel, by decide +kernel⟩
abbrev s_replace_variables : Stmt := topS 8
abbrev N_replace_variables : List Str := ["shape", "mapping", "new_parts", "part"]
theorem sc_replace_variables : FnScope N_replace_variables ["shape", "mapping"] (defScope s_replace_variables) := ⟨rfl, rfl, rfl, by decide +kernel, rfl, by decide +kernel, by decide +kernel⟩
abbrev s_constructor_entries : Stmt := topS 10
abbrev N_constructor_entries : List Str := ["entries", "found", "entry"]
theorem sc_constructor_entries : FnScope N_constructor_entries ["entries"] (defScope s_constructor_entries) := ⟨rfl, rfl, rfl, by decide +kernel, rfl, by decide +kernel, by decide +kernel⟩
abbrev s_constructors_of : Stmt := topS 11
abbrev N_constructors_of : List Str := ["entries", "stamp", "entry"]
theorem sc_constructors_of : FnScope N_constructors_of ["entries", "stamp"] (defScope s_constructors_of) := ⟨rfl, rfl, rfl, by decide +kernel, rfl, by decide +kernel, by decide +kernel⟩
abbrev s_agrees_with_entry : Stmt := topS 12
abbrev N_agrees_with_entry : List Str := ["entries", "entry", "args", "value", "store", "depth", "mapping", "k"]
theorem sc_agrees_with_entry : FnScope N_agrees_with_entry ["entries", "entry", "args", "value", "store", "depth"] (defScope s_agrees_with_entry) := ⟨rfl, rfl, rfl, by decide +kernel, rfl, by decide +kernel, by decide +kernel⟩
abbrev s_agrees_with_constructor : Stmt := topS 13
abbrev N_agrees_with_constructor : List Str := ["entries", "shape", "value", "store", "depth", "rows", "entry"]
theorem sc_agrees_with_constructor : FnScope N_agrees_with_constructor ["entries", "shape", "value", "store", "depth"] (defScope s_agrees_with_constructor) := ⟨rfl, rfl, rfl, by decide +kernel, rfl, by decide +kernel, by decide +kernel⟩
abbrev s_agrees : Stmt := topS 14
abbrev N_agrees : List Str := ["entries", "shape", "value", "store", "depth", "part", "item"]
theorem sc_agrees : FnScope N_agrees ["entries", "shape", "value", "store", "depth"] (defScope s_agrees) := ⟨rfl, rfl, rfl, by decide +kernel, rfl, by decide +kernel, by decide +kernel⟩
abbrev s__law_box : Stmt := topS 33
abbrev N__law_box : List Str := ["script", "nodes"]
theorem sc__law_box : FnScope N__law_box ["script", "nodes"] (defScope s__law_box) := ⟨rfl, rfl, rfl, by decide +kernel, rfl, by decide +kernel, by decide +kernel⟩
abbrev s__law_load : Stmt := topS 34
abbrev N__law_load : List Str := ["box", "cells", "cell", "size", "first", "second"]
theorem sc__law_load : FnScope N__law_load ["box"] (defScope s__law_load) := ⟨rfl, rfl, rfl, by decide +kernel, rfl, by decide +kernel, by decide +kernel⟩
abbrev s__law_draw : Stmt := topS 35
abbrev N__law_draw : List Str := ["box", "many", "digit"]
theorem sc__law_draw : FnScope N__law_draw ["box", "many"] (defScope s__law_draw) := ⟨rfl, rfl, rfl, by decide +kernel, rfl, by decide +kernel, by decide +kernel⟩
abbrev s__law_entries : Stmt := topS 36
abbrev N__law_entries : List Str := ["hidden", "v0", "v1", "result", "family", "rows", "k"]
theorem sc__law_entries : FnScope N__law_entries ["hidden"] (defScope s__law_entries) := ⟨rfl, rfl, rfl, by decide +kernel, rfl, by decide +kernel, by decide +kernel⟩
abbrev s__law_shape : Stmt := topS 37
abbrev N__law_shape : List Str := ["box", "deep", "kind", "one", "two"]
theorem sc__law_shape : FnScope N__law_shape ["box", "deep"] (defScope s__law_shape) := ⟨rfl, rfl, rfl, by decide +kernel, rfl, by decide +kernel, by decide +kernel⟩
abbrev s__law_stored : Stmt := topS 38
abbrev N__law_stored : List Str := ["store", "value"]
theorem sc__law_stored : FnScope N__law_stored ["store", "value"] (defScope s__law_stored) := ⟨rfl, rfl, rfl, by decide +kernel, rfl, by decide +kernel, by decide +kernel⟩
abbrev s__law_value : Stmt := topS 39
abbrev N__law_value : List Str := ["box", "shape", "store", "deep", "tag", "stamp", "one", "part"]
theorem sc__law_value : FnScope N__law_value ["box", "shape", "store", "deep"] (defScope s__law_value) := ⟨rfl, rfl, rfl, by decide +kernel, rfl, by decide +kernel, by decide +kernel⟩
abbrev s__law_own_value : Stmt := topS 40
abbrev N__law_own_value : List Str := ["box", "shape", "store", "deep", "kind", "first", "second", "one"]
theorem sc__law_own_value : FnScope N__law_own_value ["box", "shape", "store", "deep"] (defScope s__law_own_value) := ⟨rfl, rfl, rfl, by decide +kernel, rfl, by decide +kernel, by decide +kernel⟩
abbrev s__law_spoilt : Stmt := topS 41
abbrev N__law_spoilt : List Str := ["box", "value", "store", "at", "part", "other"]
theorem sc__law_spoilt : FnScope N__law_spoilt ["box", "value", "store"] (defScope s__law_spoilt) := ⟨rfl, rfl, rfl, by decide +kernel, rfl, by decide +kernel, by decide +kernel⟩
abbrev s__law_deep : Stmt := topS 42
abbrev N__law_deep : List Str := ["box", "many", "shape", "value", "k", "kind", "depth", "seen", "node", "ring", "entries"]
theorem sc__law_deep : FnScope N__law_deep ["box"] (defScope s__law_deep) := ⟨rfl, rfl, rfl, by decide +kernel, rfl, by decide +kernel, by decide +kernel⟩
abbrev s__law_grown : Stmt := topS 43
abbrev N__law_grown : List Str := ["box", "first", "own", "family", "more", "entries", "many", "right", "wrong", "k", "depth", "shape", "seen"]
theorem sc__law_grown : FnScope N__law_grown ["box"] (defScope s__law_grown) := ⟨rfl, rfl, rfl, by decide +kernel, rfl, by decide +kernel, by decide +kernel⟩
abbrev s_law : Stmt := topS 44
abbrev N_law : List Str := ["script", "box", "shape", "store", "value", "hidden", "entries", "depth", "kept", "spoilt"]
theorem sc_law : FnScope N_law ["script"] (defScope s_law) := ⟨rfl, rfl, rfl, by decide +kernel, rfl, by decide +kernel, by decide +kernel⟩
structure Adr where
  f_direct_parts : Addr
  d_direct_parts : FuncData
  f_with_parts : Addr
  d_with_parts : FuncData
  f_replace_variables : Addr
  d_replace_variables : FuncData
  f_constructor_entries : Addr
  d_constructor_entries : FuncData
  f_constructors_of : Addr
  d_constructors_of : FuncData
  f_agrees_with_entry : Addr
  d_agrees_with_entry : FuncData
  f_agrees_with_constructor : Addr
  d_agrees_with_constructor : FuncData
  f_agrees : Addr
  d_agrees : FuncData
  f__law_box : Addr
  d__law_box : FuncData
  f__law_load : Addr
  d__law_load : FuncData
  f__law_draw : Addr
  d__law_draw : FuncData
  f__law_entries : Addr
  d__law_entries : FuncData
  f__law_shape : Addr
  d__law_shape : FuncData
  f__law_stored : Addr
  d__law_stored : FuncData
  f__law_value : Addr
  d__law_value : FuncData
  f__law_own_value : Addr
  d__law_own_value : FuncData
  f__law_spoilt : Addr
  d__law_spoilt : FuncData
  f__law_deep : Addr
  d__law_deep : FuncData
  f__law_grown : Addr
  d__law_grown : FuncData
  f_law : Addr
  d_law : FuncData
  c_INT : Addr
  c_UNIT : Addr
  c_EXN : Addr
  c_BASIS : Addr
structure Txt (K : PySem.W.Frag) (mg : Str → Option Value) (A : Adr) : Prop where
  F_direct_parts : Fun K "direct_parts" "direct_parts" s_direct_parts A.f_direct_parts A.d_direct_parts
  b_direct_parts : Binds K A.d_direct_parts ["shape"] []
  g_direct_parts : mg "direct_parts" = some (.ref A.f_direct_parts)
  F_with_parts : Fun K "with_parts" "with_parts" s_with_parts A.f_with_parts A.d_with_parts
  b_with_parts : Binds K A.d_with_parts ["shape", "new_parts"] []
  g_with_parts : mg "with_parts" = some (.ref A.f_with_parts)
  F_replace_variables : Fun K "replace_variables" "replace_variables" s_replace_variables A.f_replace_variables A.d_replace_variables
  b_replace_variables : Binds K A.d_replace_variables ["shape", "mapping"] []
  g_replace_variables : mg "replace_variables" = some (.ref A.f_replace_variables)
  F_constructor_entries : Fun K "constructor_entries" "constructor_entries" s_constructor_entries A.f_constructor_entries A.d_constructor_entries
  b_constructor_entries : Binds K A.d_constructor_entries ["entries"] []
  g_constructor_entries : mg "constructor_entries" = some (.ref A.f_constructor_entries)
  F_constructors_of : Fun K "constructors_of" "constructors_of" s_constructors_of A.f_constructors_of A.d_constructors_of
  b_constructors_of : Binds K A.d_constructors_of ["entries", "stamp"] []
  g_constructors_of : mg "constructors_of" = some (.ref A.f_constructors_of)
  F_agrees_with_entry : Fun K "agrees_with_entry" "agrees_with_entry" s_agrees_with_entry A.f_agrees_with_entry A.d_agrees_with_entry
  b_agrees_with_entry : Binds K A.d_agrees_with_entry ["entries", "entry", "args", "value", "store", "depth"] []
  g_agrees_with_entry : mg "agrees_with_entry" = some (.ref A.f_agrees_with_entry)
  F_agrees_with_constructor : Fun K "agrees_with_constructor" "agrees_with_constructor" s_agrees_with_constructor A.f_agrees_with_constructor A.d_agrees_with_constructor
  b_agrees_with_constructor : Binds K A.d_agrees_with_constructor ["entries", "shape", "value", "store", "depth"] []
  g_agrees_with_constructor : mg "agrees_with_constructor" = some (.ref A.f_agrees_with_constructor)
  F_agrees : Fun K "agrees" "agrees" s_agrees A.f_agrees A.d_agrees
  b_agrees : Binds K A.d_agrees ["entries", "shape", "value", "store", "depth"] []
  g_agrees : mg "agrees" = some (.ref A.f_agrees)
  F__law_box : Fun K "_law_box" "_law_box" s__law_box A.f__law_box A.d__law_box
  b__law_box : Binds K A.d__law_box ["script", "nodes"] []
  g__law_box : mg "_law_box" = some (.ref A.f__law_box)
  F__law_load : Fun K "_law_load" "_law_load" s__law_load A.f__law_load A.d__law_load
  b__law_load : Binds K A.d__law_load ["box"] []
  g__law_load : mg "_law_load" = some (.ref A.f__law_load)
  F__law_draw : Fun K "_law_draw" "_law_draw" s__law_draw A.f__law_draw A.d__law_draw
  b__law_draw : Binds K A.d__law_draw ["box", "many"] []
  g__law_draw : mg "_law_draw" = some (.ref A.f__law_draw)
  F__law_entries : Fun K "_law_entries" "_law_entries" s__law_entries A.f__law_entries A.d__law_entries
  b__law_entries : Binds K A.d__law_entries ["hidden"] []
  g__law_entries : mg "_law_entries" = some (.ref A.f__law_entries)
  F__law_shape : Fun K "_law_shape" "_law_shape" s__law_shape A.f__law_shape A.d__law_shape
  b__law_shape : Binds K A.d__law_shape ["box", "deep"] []
  g__law_shape : mg "_law_shape" = some (.ref A.f__law_shape)
  F__law_stored : Fun K "_law_stored" "_law_stored" s__law_stored A.f__law_stored A.d__law_stored
  b__law_stored : Binds K A.d__law_stored ["store", "value"] []
  g__law_stored : mg "_law_stored" = some (.ref A.f__law_stored)
  F__law_value : Fun K "_law_value" "_law_value" s__law_value A.f__law_value A.d__law_value
  b__law_value : Binds K A.d__law_value ["box", "shape", "store", "deep"] []
  g__law_value : mg "_law_value" = some (.ref A.f__law_value)
  F__law_own_value : Fun K "_law_own_value" "_law_own_value" s__law_own_value A.f__law_own_value A.d__law_own_value
  b__law_own_value : Binds K A.d__law_own_value ["box", "shape", "store", "deep"] []
  g__law_own_value : mg "_law_own_value" = some (.ref A.f__law_own_value)
  F__law_spoilt : Fun K "_law_spoilt" "_law_spoilt" s__law_spoilt A.f__law_spoilt A.d__law_spoilt
  b__law_spoilt : Binds K A.d__law_spoilt ["box", "value", "store"] []
  g__law_spoilt : mg "_law_spoilt" = some (.ref A.f__law_spoilt)
  F__law_deep : Fun K "_law_deep" "_law_deep" s__law_deep A.f__law_deep A.d__law_deep
  b__law_deep : Binds K A.d__law_deep ["box"] []
  g__law_deep : mg "_law_deep" = some (.ref A.f__law_deep)
  F__law_grown : Fun K "_law_grown" "_law_grown" s__law_grown A.f__law_grown A.d__law_grown
  b__law_grown : Binds K A.d__law_grown ["box"] []
  g__law_grown : mg "_law_grown" = some (.ref A.f__law_grown)
  F_law : Fun K "law" "law" s_law A.f_law A.d_law
  b_law : Binds K A.d_law ["script"] []
  g_law : mg "law" = some (.ref A.f_law)
  g_INT : mg "INT" = some (.ref A.c_INT)
  y_INT : ∀ H, GD.Rp K H (.ref A.c_INT) INT_D
  g_UNIT : mg "UNIT" = some (.ref A.c_UNIT)
  y_UNIT : ∀ H, GD.Rp K H (.ref A.c_UNIT) UNIT_D
  g_EXN : mg "EXN" = some (.ref A.c_EXN)
  y_EXN : ∀ H, GD.Rp K H (.ref A.c_EXN) EXN_D
  g_BASIS : mg "BASIS" = some (.ref A.c_BASIS)
  y_BASIS : ∀ H, GD.Rp K H (.ref A.c_BASIS) BASIS_D
  n_bool : mg "bool" = none
  n_int : mg "int" = none
  n_isinstance : mg "isinstance" = none
  n_len : mg "len" = none
  n_list : mg "list" = none
  n_range : mg "range" = none
  n_tuple : mg "tuple" = none
  n_zip : mg "zip" = none
end K88

set_option Elab.async false
set_option maxRecDepth 100000
set_option linter.all false
set_option maxHeartbeats 4000000
namespace K88
open PySem L2 GD
section
variable {P : Program} {w : World} {K : PySem.W.Frag} {mg : Str → Option Value} {base : Heap} {A : Adr}
abbrev nums (ns : List Int) : List V := ns.map V.int
/-- but for two -/
def Bx (b c : Addr) (H H' : Hp) : Prop := ∀ a, a ≠ b → a ≠ c → H' a = H a
theorem Bx.refl {b c : Addr} {H : Hp} : Bx b c H H := fun _ _ _ => rfl
theorem Bx.trans {b c : Addr} {H H1 H2 : Hp} (h : Bx b c H H1) (k : Bx b c H1 H2) : Bx b c H H2 := fun a n1 n2 => (k a n1 n2).trans (h a n1 n2)
theorem Bx.upd1 {b c : Addr} {H : Hp} {o : HO} : Bx b c H (upd H b o) := fun a n _ => upd_ne n
theorem Bx.upd2 {b c : Addr} {H : Hp} {o : HO} : Bx b c H (upd H c o) := fun a _ n => upd_ne n
def BoxAt (H : Hp) (b c : Addr) : Prop := ∃ (ns : List Int) (n m k : Int), H b = some (.lst [.ref c, .int n, .int m, .int k]) ∧ H c = some (.lst (nums ns)) ∧ ns.length ≤ 63
theorem BoxAt.ne {H : Hp} {b c : Addr} (h : BoxAt H b c) : b ≠ c := by
  obtain ⟨ns, n, m, k, h1, h2, _⟩ := h
  refine ne_of h1 h2 fun e => ?_
  cases ns with
  | nil => cases e
  | cons x r => cases e
theorem BoxAt.keep {H H' : Hp} {b c : Addr} (h : BoxAt H b c) (k : ∀ a o, H a = some o → (a = b ∨ a = c) → H' a = some o) : BoxAt H' b c := by
  obtain ⟨ns, n, m, k0, h1, h2, h3⟩ := h
  exact ⟨ns, n, m, k0, k _ _ h1 (.inl rfl), k _ _ h2 (.inr rfl), h3⟩
theorem BoxAt.kt {H H' : Hp} {b c : Addr} (h : BoxAt H b c) (k : Bx b c H H') : KT H H' := by
  obtain ⟨ns, n, m, k0, h1, h2, h3⟩ := h
  intro a xs q
  have n1 : a ≠ b := fun z => NT.lst h1 xs (by rw [z] at q; exact q)
  have n2 : a ≠ c := fun z => NT.lst h2 xs (by rw [z] at q; exact q)
  unfold Rd
  rw [k a n1 n2]
  exact q
theorem BoxAt.at_b {H : Hp} {b c : Addr} (h : BoxAt H b c) : ∃ o, H b = some o := let ⟨_, _, _, _, e, _⟩ := h; ⟨_, e⟩
theorem BoxAt.at_c {H : Hp} {b c : Addr} (h : BoxAt H b c) : ∃ o, H c = some o := let ⟨_, _, _, _, _, e, _⟩ := h; ⟨_, e⟩
def spBox (K : PySem.W.Frag) : Sp := fun vs H Q _ => ∃ (a : Addr) (ns : List Int) (k : Int), vs = [.ref a, .int k] ∧ SqL K H a (nums ns) ∧ ns.length ≤ 63 ∧
  ∀ (b c : Addr) (H' : Hp), H b = none → H c = none → (∀ a o, H a = some o → H' a = some o) → BoxAt H' b c → Q (.ref b) H'
theorem ok__law_box (T : Txt K mg A) : FnOk P w K mg base CX0 1 A.f__law_box A.d__law_box ["script", "nodes"] (spBox K) := by
  refine T.F__law_box.ok sc__law_box (fun vs H Q E h => ?_) (fun cdv Ar outer s H vs Q E hr h => ?_)
  · obtain ⟨a, ns, k, rfl, _⟩ := h
    rfl
  · obtain ⟨a, ns, n, rfl, hS, hl, k⟩ := h
    refine ⟨_, (pss_one (ps_ret (pe_lst (pa_cons (pe_callTy call_list_of (by rfl) T.n_list (by decide +kernel) (pa_cons (pv 0) pa_nil)) (pa_cons pe_int (pa_cons (pe_op op_add pe_int (pe_callB call_len_seq (by rfl) T.n_len PySem.boot_len (pa_cons (pv 0) pa_nil))) (pa_cons (pv 1) pa_nil))))))), ?_⟩
    refine ⟨_, rfl, a, _, rfl, .inl hS, fun c hc => ?_⟩
    have nac : ∀ o, H a = some o → a ≠ c := fun o e => ne_of_none e hc
    have hS2 : SqL K (upd H c (.lst (nums ns))) a (nums ns) := by
      rcases hS with hS | hS
      · refine .inl ?_
        rcases hS with e | ⟨o, e⟩
        · exact .inl (by rw [upd_ne (ne_of_none e hc)]; exact e)
        · exact .inr ⟨o, by rw [upd_ne (ne_of_none e hc)]; exact e⟩
      · exact .inr hS
    refine ⟨_, rfl, a, _, rfl, .inl hS2, _, _, rfl, rfl, _, rfl, (show 4 ≤ sizeLine by decide), fun b hb => ?_⟩
    have ncb : c ≠ b := ne_of_none upd_same hb
    have hb0 : H b = none := by rw [upd_ne ncb.symm] at hb; exact hb
    refine k b c _ hb0 hc (fun x o e => ?_) ⟨ns, 0, 4711 + ((nums ns).length : Int), n, upd_same, ?_, hl⟩
    · rw [upd_ne (ne_of_none e hb0), upd_ne (ne_of_none e hc)]
      exact e
    · rw [upd_ne ncb, upd_same]
def spLoad : Sp := fun vs H Q _ => ∃ (b c : Addr), vs = [.ref b] ∧ BoxAt H b c ∧ ∀ (r : Int) (H' : Hp), Bx b c H H' → BoxAt H' b c → Q (.int r) H'
theorem ok__law_load (T : Txt K mg A) : FnOk P w K mg base CX0 1 A.f__law_load A.d__law_load ["box"] spLoad := by
  refine T.F__law_load.ok sc__law_load (fun vs H Q E h => ?_) (fun cdv Ar outer s H vs Q E hr h => ?_)
  · obtain ⟨b, c, rfl, _⟩ := h
    rfl
  · obtain ⟨b, c, rfl, hB, k⟩ := h
    have nbc := hB.ne
    obtain ⟨ns, n, m, k0, hb, hc, hl⟩ := hB
    refine ⟨_, (pss_cons (ps_set (i := 1) sc__law_load.nd rfl (Or.inl rfl) (pe_ix (ixl (K := K) rfl) (pv 0) pe_int (fun _ _ => rfl))) (Evl.pss_cut (ps_if (pt_cmpR op_gt (pe_callB call_len_seq (by rfl) T.n_len PySem.boot_len (pa_cons (pv 1) pa_nil)) pe_int (nomark _)) (pss_cons (ps_set (i := 2) sc__law_load.nd rfl (Or.inl rfl) (pe_callTy call_int1 (by rfl) T.n_int (by decide +kernel) (pa_cons (pe_bm PySem.F.plainAttrs_list PySem.F.slot_list_pop PySem.F.type_list_pop mt_popAt (pv 1) (pa_cons pe_int pa_nil)) pa_nil))) (pss_cons (ps_set (i := 3) sc__law_load.nd rfl (Or.inl rfl) (pe_ifExp (pt_cmpR op_ge (pv 2) pe_int (nomark _)) (pe_op op_mul pe_int (pv 2)) (pe_op op_sub (pe_op op_mul (pe_un un_neg pe_int) (pv 2)) pe_int))) (pss_cons (ps_if (pt_cmpR op_ge (pv 3) pe_int (nomark _)) (pss_one (ps_ret (pv 3))) pss_nil) (pss_one (ps_asg (pe_op op_mod (pe_callTy call_int1 (by rfl) T.n_int (by decide +kernel) (pa_cons (pe_op op_add (pe_op op_add (pe_op op_mul (pe_ix (ixl (K := K) rfl) (pv 0) pe_int (fun _ _ => rfl)) pe_int) (pe_op op_mul (pv 3) pe_int)) pe_int) pa_nil)) pe_int) (pg_sub (pv 0) pe_int set_list)))))) pss_nil) (pss_cons (ps_set (i := 4) sc__law_load.nd rfl (Or.inl rfl) (pe_op op_mod (pe_callTy call_int1 (by rfl) T.n_int (by decide +kernel) (pa_cons (pe_op op_add (pe_op op_mul (pe_ix (ixl (K := K) rfl) (pv 0) pe_int (fun _ _ => rfl)) pe_int) pe_int) pa_nil)) pe_int)) (pss_cons (ps_set (i := 5) sc__law_load.nd rfl (Or.inl rfl) (pe_op op_mod (pe_callTy call_int1 (by rfl) T.n_int (by decide +kernel) (pa_cons (pe_op op_add (pe_op op_mul (pv 4) pe_int) pe_int) pa_nil)) pe_int)) (pss_cons (ps_asg (pe_op op_mod (pe_callTy call_int1 (by rfl) T.n_int (by decide +kernel) (pa_cons (pe_op op_add (pe_op op_mul (pv 5) pe_int) pe_int) pa_nil)) pe_int) (pg_sub (pv 0) pe_int set_list)) (pss_one (ps_ret (pe_op op_add (pe_op op_add (pe_op op_mul (pv 4) pe_int) (pe_op op_mul (pv 5) pe_int)) (pe_ix (ixl (K := K) rfl) (pv 0) pe_int (fun _ _ => rfl)))))))))), ?_⟩
    refine ⟨_, rfl, b, _, _, _, rfl, rfl, SqL.of hb, rfl, ?_⟩
    refine ⟨fun σ' H' => ∃ (v2 v3 : Option V), σ' = [some (.ref b), some (.ref c), v2, v3, none, none] ∧ Bx b c H H' ∧ BoxAt H' b c, ?_, ?_⟩
    · refine ⟨_, rfl, c, _, rfl, .inl (SqL.of hc), _, _, rfl, rfl, _, rfl, ite2 (fun c1 => ?_) (fun c1 => ?_)⟩
      · cases ns with
        | nil => cases (of_decide_eq_true c1 : (0 : Int) < ((nums ([] : List Int)).length : Int))
        | cons x ns' =>
          refine ⟨_, rfl, .inl ⟨rfl, _, SqL.of hc⟩, c, _, 0, 0, .int x, rfl, rfl, hc, by decide, by decide, (ixN_seq (n := (nums (x :: ns')).length) (i := 0) (j := 0) (by unfold ixN; rw [if_pos (by decide), if_pos (by simp only [List.length_map, List.length_cons]; omega)]; rfl)).1, rfl, .inl ⟨_, rfl, ?_⟩⟩
          have hb1 : ∀ o : HO, (upd H c o) b = some (.lst [.ref c, .int n, .int m, .int k0]) := fun o => by rw [upd_ne nbc]; exact hb
          have hl' : ns'.length ≤ 63 := by have := hl; simp only [List.length_cons] at this; omega
          refine ⟨_, rfl, _, _, rfl, rfl, _, rfl, ite2 (fun c2 => ?_) (fun c2 => ?_)⟩
          all_goals
            first
              | refine ⟨_, rfl, _, _, rfl, rfl, .inl ⟨by decide, by decide⟩, ?_⟩
              | refine ⟨_, rfl, _, rfl, _, _, rfl, rfl, .inl ⟨by decide, by decide⟩, _, _, rfl, rfl, ?_⟩
            refine ⟨_, rfl, _, _, rfl, rfl, _, rfl, ite2 (fun c3 => ?_) (fun c3 => ?_)⟩
            · exact ⟨_, rfl, k _ _ .upd2 ⟨ns', n, m, k0, hb1 _, upd_same, hl'⟩⟩
            · refine ⟨_, rfl, b, _, _, _, rfl, rfl, SqL.of (hb1 _), rfl, _, _, rfl, rfl, .inr ⟨by decide, by decide⟩, _, rfl, _, _, rfl, rfl, .inr ⟨by decide, by decide⟩, _, _, rfl, rfl, _, _, rfl, rfl, .inl ⟨_, rfl, _, _, rfl, rfl, (show (0 : Int) < 2147483647 by decide), ?_⟩⟩
              refine ⟨_, rfl, b, _, _, 2, rfl, rfl, hb1 _, rfl, _, _, rfl, Bx.upd2.trans .upd1, ns', n, _, k0, upd_same, ?_, hl'⟩
              rw [upd_ne nbc.symm, upd_same]
              rfl
      · exact ⟨none, none, rfl, .refl, ns, n, m, k0, hb, hc, hl⟩
    · rintro σ' H1 ⟨v2, v3, rfl, hB1, ns1, n1, m1, k1, hb1, hc1, hl1⟩
      have h0 := Int.emod_nonneg (m1 * 48271 + 17) (show (2147483629 : Int) ≠ 0 by decide)
      refine ⟨_, rfl, b, _, _, _, rfl, rfl, SqL.of hb1, rfl, _, _, rfl, rfl, .inr ⟨by decide, by decide⟩, _, _, rfl, rfl, .inl ⟨_, rfl, _, _, rfl, rfl, (show (0 : Int) < 2147483629 by decide), ?_⟩⟩
      refine ⟨_, rfl, _, _, rfl, rfl, .inr ⟨by decide, by decide⟩, _, _, rfl, rfl, .inl ⟨_, rfl, _, _, rfl, rfl, (show (0 : Int) < 2147483587 by decide), ?_⟩⟩
      refine ⟨_, rfl, _, _, rfl, rfl, .inr ⟨by decide, by decide⟩, _, _, rfl, rfl, .inl ⟨_, rfl, _, _, rfl, rfl, (show (0 : Int) < 2147483563 by decide), ?_⟩⟩
      refine ⟨_, rfl, b, _, _, 2, rfl, rfl, hb1, rfl, ?_⟩
      refine ⟨_, rfl, _, _, rfl, rfl, .inr ⟨by decide, by decide⟩, _, rfl, _, _, rfl, rfl, .inr ⟨by decide, by decide⟩, _, _, rfl, rfl, _, rfl, b, _, _, _, rfl, rfl, SqL.of upd_same, rfl, _, _, rfl, rfl, ?_⟩
      exact k _ _ (hB1.trans .upd1) ⟨ns1, n1, _, k1, upd_same, by rw [upd_ne nbc.symm]; exact hc1, hl1⟩
def spDraw : Sp := fun vs H Q _ => ∃ (b c : Addr) (many : Int), vs = [.ref b, .int many] ∧ 0 < many ∧ many < 1073741824 ∧ BoxAt H b c ∧ ∀ (r : Int) (H' : Hp), 0 ≤ r → r < many → Bx b c H H' → BoxAt H' b c → Q (.int r) H'
theorem ok__law_draw (T : Txt K mg A) : FnOk P w K mg base CX0 2 A.f__law_draw A.d__law_draw ["box", "many"] spDraw := by
  have G__law_load : FnOk P w K mg base CX0 1 A.f__law_load A.d__law_load _ _ := ok__law_load T
  refine T.F__law_draw.ok sc__law_draw (fun vs H Q E h => ?_) (fun cdv Ar outer s H vs Q E hr h => ?_)
  · obtain ⟨b, c, many, rfl, _⟩ := h
    rfl
  · obtain ⟨b, c, many, rfl, hm0, hm1, hB, k⟩ := h
    have nbc := hB.ne
    refine ⟨_, (Evl.pss_cut (ps_if (pt_cmpR op_lt (pe_ix (ixl (K := K) rfl) (pv 0) pe_int (fun _ _ => rfl)) (pv 1) (nomark _)) (pss_one (ps_asg (pe_call G__law_load (hr.mono (by first | decide | omega)) rfl T.g__law_load T.F__law_load.kp T.b__law_load .nil pass0 (pa_cons (pv 0) pa_nil)) (pg_sub (pv 0) pe_int set_list))) pss_nil) (pss_cons (ps_set (i := 2) sc__law_draw.nd rfl (Or.inl rfl) (pe_op op_mod (pe_callTy call_int1 (by rfl) T.n_int (by decide +kernel) (pa_cons (pe_ix (ixl (K := K) rfl) (pv 0) pe_int (fun _ _ => rfl)) pa_nil)) (pv 1))) (pss_cons (ps_asg (pe_op op_fdiv (pe_ix (ixl (K := K) rfl) (pv 0) pe_int (fun _ _ => rfl)) (pv 1)) (pg_sub (pv 0) pe_int set_list)) (pss_one (ps_ret (pv 2)))))), ?_⟩
    refine ⟨fun σ' H' => σ' = [some (.ref b), some (.int many), none] ∧ Bx b c H H' ∧ BoxAt H' b c, ?_, ?_⟩
    · have hB0 := hB
      obtain ⟨ns, n, m, k0, hb, hc, hl⟩ := hB
      refine ⟨_, rfl, b, _, _, _, rfl, rfl, SqL.of hb, rfl, _, rfl, _, _, rfl, rfl, _, rfl, ite2 (fun c1 => ?_) (fun c1 => ?_)⟩
      · refine ⟨_, rfl, b, c, rfl, hB0, fun r H1 hB1 ⟨ns1, n1, m1, k1, hb1, hc1, hl1⟩ => ?_⟩
        refine ⟨_, rfl, b, _, _, 1, rfl, rfl, hb1, rfl, rfl, hB1.trans .upd1, ns1, r, m1, k1, upd_same, by rw [upd_ne nbc.symm]; exact hc1, hl1⟩
      · exact ⟨rfl, .refl, hB0⟩
    · rintro σ' H1 ⟨rfl, hB1, ns, n, m, k0, hb, hc, hl⟩
      refine ⟨_, rfl, b, _, _, _, rfl, rfl, SqL.of hb, rfl, .inl ⟨_, rfl, _, rfl, _, _, rfl, rfl, hm0, ?_⟩⟩
      refine ⟨_, rfl, b, _, _, _, rfl, rfl, SqL.of hb, rfl, _, rfl, _, _, rfl, rfl, ⟨hm0, hm1⟩, _, rfl, b, _, _, 1, rfl, rfl, hb, rfl, ?_⟩
      exact ⟨_, rfl, k _ _ (Int.emod_nonneg _ (by omega)) (Int.emod_lt_of_pos _ hm0) (hB1.trans .upd1) ⟨ns, n / many, m, k0, upd_same, by rw [upd_ne nbc.symm]; exact hc, hl⟩⟩
end
end K88

set_option Elab.async false
set_option maxRecDepth 100000
set_option linter.all false
set_option maxHeartbeats 4000000
/-! shapes, values, entries as data; what agreement is -/
namespace AG
open PySem L2 GD
inductive Sh
  | v (n : Int) | c (s : Int) (as : List Sh) | t (ps : List Sh) | f (a b : Sh)
mutual
def Sh.d : Sh → PyData
  | .v n => .tuple [.str "v", .int n]
  | .c s as => .tuple [.str "c", .int s, .tuple (Sh.ds as)]
  | .t ps => .tuple [.str "t", .tuple (Sh.ds ps)]
  | .f a b => .tuple [.str "f", a.d, b.d]
def Sh.ds : List Sh → List PyData
  | [] => []
  | a :: r => a.d :: Sh.ds r
end
theorem ds_map : ∀ l : List Sh, Sh.ds l = l.map Sh.d
  | [] => by simp [Sh.ds]
  | a :: r => by simp [Sh.ds, ds_map r]
theorem ds_len (l : List Sh) : (Sh.ds l).length = l.length := by rw [ds_map, List.length_map]
def Sh.parts : Sh → List Sh
  | .v _ => []
  | .c _ l => l
  | .t l => l
  | .f a b => [a, b]
def Sh.isV : Sh → Bool
  | .v _ => true
  | _ => false
def Sh.withP : Sh → List Sh → Sh
  | .v n, _ => .v n
  | .c s _, l => .c s l
  | .t _, l => .t l
  | .f _ _, a :: b :: _ => .f a b
  | .f a b, _ => .f a b
def pick (as : List Sh) (n : Int) : Option Sh := if 0 ≤ n then as[n.toNat]? else none
mutual
def repl (as : List Sh) : Sh → Sh
  | .v n => (pick as n).getD (.v n)
  | .c s l => .c s (repls as l)
  | .t l => .t (repls as l)
  | .f a b => .f (repl as a) (repl as b)
def repls (as : List Sh) : List Sh → List Sh
  | [] => []
  | a :: r => repl as a :: repls as r
end
theorem repls_map (as : List Sh) : ∀ l : List Sh, repls as l = l.map (repl as)
  | [] => by simp [repls]
  | a :: r => by simp [repls, repls_map as r]
theorem repl_parts (as : List Sh) {s : Sh} (h : s.isV = false) : repl as s = s.withP (repls as s.parts) := by
  cases s with
  | v n => cases h
  | c s l => simp [repl, Sh.withP, Sh.parts]
  | t l => simp [repl, Sh.withP, Sh.parts]
  | f a b => simp [repl, repls, Sh.withP, Sh.parts]
mutual
def Sh.dep : Sh → Nat
  | .v _ => 1
  | .c _ l => 1 + l.length + Sh.deps l
  | .t l => 1 + l.length + Sh.deps l
  | .f a b => 1 + Nat.max a.dep b.dep
def Sh.deps : List Sh → Nat
  | [] => 0
  | a :: r => Nat.max a.dep (Sh.deps r)
end
theorem deps_mem : ∀ {l : List Sh} {a : Sh}, a ∈ l → a.dep ≤ Sh.deps l
  | b :: r, a, h => by
    simp only [Sh.deps]
    rcases List.mem_cons.mp h with h | h
    · subst h; exact Nat.le_max_left _ _
    · exact Nat.le_trans (deps_mem h) (Nat.le_max_right _ _)
theorem parts_dep {s a : Sh} (h : a ∈ s.parts) : a.dep < s.dep := by
  cases s with
  | v n => cases h
  | c s l => have := deps_mem (show a ∈ l from h); simp only [Sh.dep]; omega
  | t l => have := deps_mem (show a ∈ l from h); simp only [Sh.dep]; omega
  | f x y =>
    have h1 : x.dep ≤ Nat.max x.dep y.dep := Nat.le_max_left x.dep y.dep
    have h2 : y.dep ≤ Nat.max x.dep y.dep := Nat.le_max_right x.dep y.dep
    simp only [Sh.dep]
    have h' : a = x ∨ a = y := by simpa [Sh.parts] using h
    generalize Nat.max x.dep y.dep = m at h1 h2 ⊢
    rcases h' with h | h
    · rw [h]; omega
    · rw [h]; omega
theorem parts_len (s : Sh) : s.parts.length ≤ s.dep + 1 := by
  cases s with
  | v n => simp [Sh.parts]
  | c s l => simp only [Sh.parts, Sh.dep]; omega
  | t l => simp only [Sh.parts, Sh.dep]; omega
  | f a b => simp only [Sh.parts, Sh.dep, List.length_cons, List.length_nil]; omega
/-! ### values -/
inductive Vl
  | int (i : Int) | tup (vs : List Vl) | con0 (i : Int) (n : Str) | con1 (i : Int) (n : Str) (a : Vl) | ref (i : Int) | oth (g : Str) (r : List PyData)
mutual
def Vl.d : Vl → PyData
  | .int i => .tuple [.str "int", .int i]
  | .tup vs => .tuple [.str "tuple", .tuple (Vl.ds vs)]
  | .con0 i n => .tuple [.str "con", .int i, .str n, .none]
  | .con1 i n a => .tuple [.str "con", .int i, .str n, a.d]
  | .ref i => .tuple [.str "ref", .int i]
  | .oth g r => .tuple (.str g :: r)
def Vl.ds : List Vl → List PyData
  | [] => []
  | a :: r => a.d :: Vl.ds r
end
theorem vds_map : ∀ l : List Vl, Vl.ds l = l.map Vl.d
  | [] => by simp [Vl.ds]
  | a :: r => by simp [Vl.ds, vds_map r]
theorem vds_len (l : List Vl) : (Vl.ds l).length = l.length := by rw [vds_map, List.length_map]
def Vl.tag : Vl → Str
  | .int _ => "int"
  | .tup _ => "tuple"
  | .con0 _ _ => "con"
  | .con1 _ _ _ => "con"
  | .ref _ => "ref"
  | .oth g _ => g
/-- the other tags are other ones -/
def Vl.ok : Vl → Prop
  | .oth g _ => g ≠ "int" ∧ g ≠ "tuple" ∧ g ≠ "con" ∧ g ≠ "ref"
  | _ => True
mutual
def Vl.oka : Vl → Prop
  | .tup vs => Vl.okas vs
  | .con1 _ _ a => a.oka
  | .oth g _ => g ≠ "int" ∧ g ≠ "tuple" ∧ g ≠ "con" ∧ g ≠ "ref"
  | _ => True
def Vl.okas : List Vl → Prop
  | [] => True
  | a :: r => a.oka ∧ Vl.okas r
end
theorem okas_mem : ∀ {l : List Vl} {a : Vl}, Vl.okas l → a ∈ l → a.oka
  | b :: r, a, h, m => by
    have h' : b.oka ∧ Vl.okas r := by simpa [Vl.okas] using h
    rcases List.mem_cons.mp m with q | q
    · rw [q]; exact h'.1
    · exact okas_mem h'.2 q
theorem Vl.oka.ok {v : Vl} (h : v.oka) : v.ok := by
  cases v with
  | oth g r => simp only [Vl.oka] at h; exact h
  | _ => trivial
theorem Vl.d_cons (v : Vl) : ∃ r, v.d = .tuple (.str v.tag :: r) := by
  cases v <;> (simp only [Vl.d, Vl.tag]; exact ⟨_, rfl⟩)
/-! ### entries -/
/-- a constructor: its result has the variables 0, 1, .. -/
structure Row where
  name : Str
  ar : Int
  arg : Option Sh
  st : Int
  m : Nat
  idx : Int
  fam : PyData
def vars (m : Nat) : List Sh := (List.range m).map fun k : Nat => Sh.v (k : Int)
def Row.argD (r : Row) : PyData := match r.arg with
  | none => .none
  | some s => s.d
def Row.d (r : Row) : PyData := .tuple [.str "con", .str r.name, .int r.ar, r.argD, (Sh.c r.st (vars r.m)).d, .int r.idx, r.fam]
inductive Ent
  | con (r : Row) | mod (n : Str) (es : List Ent) | oth (g : Str) (r : List PyData)
mutual
def Ent.d : Ent → PyData
  | .con r => r.d
  | .mod n es => .tuple [.str "module", .str n, .tuple (Ent.ds es)]
  | .oth g r => .tuple (.str g :: r)
def Ent.ds : List Ent → List PyData
  | [] => []
  | a :: r => a.d :: Ent.ds r
end
theorem eds_map : ∀ l : List Ent, Ent.ds l = l.map Ent.d
  | [] => by simp [Ent.ds]
  | a :: r => by simp [Ent.ds, eds_map r]
mutual
def Ent.rows : Ent → List Row
  | .con r => [r]
  | .mod _ es => Ent.rowss es
  | .oth _ _ => []
def Ent.rowss : List Ent → List Row
  | [] => []
  | a :: r => a.rows ++ Ent.rowss r
end
theorem rowss_app : ∀ a b : List Ent, Ent.rowss (a ++ b) = Ent.rowss a ++ Ent.rowss b
  | [], b => by simp [Ent.rowss]
  | x :: a, b => by simp [Ent.rowss, rowss_app a b]
mutual
def Ent.dep : Ent → Nat
  | .con _ => 0
  | .mod _ es => 1 + Ent.deps es
  | .oth _ _ => 0
def Ent.deps : List Ent → Nat
  | [] => 0
  | a :: r => Nat.max a.dep (Ent.deps r)
end
mutual
/-- the other tags are other ones -/
def Ent.ok : Ent → Prop
  | .con _ => True
  | .mod _ es => Ent.oks es
  | .oth g _ => g ≠ "con" ∧ g ≠ "module"
def Ent.oks : List Ent → Prop
  | [] => True
  | a :: r => a.ok ∧ Ent.oks r
end
theorem oks_mem : ∀ {l : List Ent} {a : Ent}, Ent.oks l → a ∈ l → a.ok
  | b :: r, a, h, m => by
    have h' : b.ok ∧ Ent.oks r := by simpa [Ent.oks] using h
    rcases List.mem_cons.mp m with q | q
    · rw [q]; exact h'.1
    · exact oks_mem h'.2 q
theorem deps_memE : ∀ {l : List Ent} {a : Ent}, a ∈ l → a.dep ≤ Ent.deps l
  | b :: r, a, h => by
    simp only [Ent.deps]
    rcases List.mem_cons.mp h with h | h
    · subst h; exact Nat.le_max_left _ _
    · exact Nat.le_trans (deps_memE h) (Nat.le_max_right _ _)
/-! ### agreement -/
def zipAll (p : Sh → Vl → Bool) : List Sh → List Vl → Bool
  | [], [] => true
  | a :: r, b :: q => p a b && zipAll p r q
  | _, _ => false
def rowsOf (rows : List Row) (s : Int) : List Row := rows.filter fun r => decide (r.st = s)
def agr (rows : List Row) (st : List Vl) : Nat → Sh → Vl → Bool
  | 0, _, _ => true
  | n + 1, sh, v => match sh with
    | .v _ => false
    | .f _ _ => decide (v.tag = "fun") || decide (v.tag = "fix")
    | .t ps => (match v with
      | .tup vs => zipAll (agr rows st n) ps vs
      | _ => false)
    | .c s as =>
      if s = 0 ∧ as = [] then decide (v.tag = "int")
      else if s = 1 ∧ as = [] then (match v with
        | .tup [] => true
        | _ => false)
      else if s = 2 ∧ as = [] then decide (v.tag = "packet")
      else if s = 3 then (match as, v with
        | a :: _, .ref i => (match (if 0 ≤ i then st[i.toNat]? else none) with
          | some u => agr rows st n a u
          | none => false)
        | _, _ => false)
      else match rowsOf rows s with
        | [] => true
        | rs => (match v with
          | .con0 i x => (match rs.find? fun r => decide (r.idx = i) with
            | none => true
            | some r => decide (x = r.name) && r.arg.isNone)
          | .con1 i x u => (match rs.find? fun r => decide (r.idx = i) with
            | none => true
            | some r => decide (x = r.name) && (match r.arg with
              | none => false
              | some a => agr rows st n (repl as a) u))
          | _ => false)
/-! ### shapes that fit the rows -/
mutual
def Sh.fit (ar : Int → Nat) : Sh → Prop
  | .v _ => True
  | .c s l => l.length = ar s ∧ Sh.fits ar l
  | .t l => Sh.fits ar l
  | .f a b => a.fit ar ∧ b.fit ar
def Sh.fits (ar : Int → Nat) : List Sh → Prop
  | [] => True
  | a :: r => a.fit ar ∧ Sh.fits ar r
end
theorem fits_mem {ar : Int → Nat} : ∀ {l : List Sh} {a : Sh}, Sh.fits ar l → a ∈ l → a.fit ar
  | b :: r, a, h, m => by
    have h' : b.fit ar ∧ Sh.fits ar r := by simpa [Sh.fits] using h
    rcases List.mem_cons.mp m with q | q
    · rw [q]; exact h'.1
    · exact fits_mem h'.2 q
mutual
theorem repl_fit {ar : Int → Nat} {as : List Sh} (h : Sh.fits ar as) : ∀ s : Sh, s.fit ar → (repl as s).fit ar
  | .v n, _ => by
    simp only [repl, pick]
    split
    · rename_i h0
      cases e : as[n.toNat]? with
      | none => simp [Sh.fit]
      | some a => exact fits_mem h (List.mem_of_getElem? e)
    · simp [Sh.fit]
  | .c s l, q => by
    simp only [repl, Sh.fit] at q ⊢
    exact ⟨by rw [repls_map, List.length_map]; exact q.1, repls_fit h l q.2⟩
  | .t l, q => by
    simp only [repl, Sh.fit] at q ⊢
    exact repls_fit h l q
  | .f a b, q => by
    simp only [repl, Sh.fit] at q ⊢
    exact ⟨repl_fit h a q.1, repl_fit h b q.2⟩
theorem repls_fit {ar : Int → Nat} {as : List Sh} (h : Sh.fits ar as) : ∀ l : List Sh, Sh.fits ar l → Sh.fits ar (repls as l)
  | [], _ => by simp [repls, Sh.fits]
  | a :: r, q => by
    simp only [repls, Sh.fits] at q ⊢
    exact ⟨repl_fit h a q.1, repls_fit h r q.2⟩
end
structure RowOk (ar : Int → Nat) (r : Row) : Prop where
  m : r.m = ar r.st
  arg : ∀ a, r.arg = some a → a.fit ar ∧ a.dep ≤ 8
structure Env (ar : Int → Nat) (es : List Ent) (st : List Vl) : Prop where
  oks : Ent.oks es
  deps : Ent.deps es ≤ 3
  few : (Ent.rowss es).length ≤ 1000
  rok : ∀ r ∈ Ent.rowss es, RowOk ar r
  stok : Vl.okas st
  ar3 : ar 3 = 1
  arb : ∀ s, ar s ≤ 100
theorem zipAll_len {p : Sh → Vl → Bool} : ∀ {a : List Sh} {b : List Vl}, a.length ≠ b.length → zipAll p a b = false
  | [], [], h => absurd rfl h
  | [], _ :: _, _ => rfl
  | _ :: _, [], _ => rfl
  | x :: a, y :: b, h => by
    have h' : a.length ≠ b.length := fun e => h (by simp [e])
    simp [zipAll, zipAll_len h']
theorem zipAll_bad {p : Sh → Vl → Bool} : ∀ {a : List Sh} {b : List Vl} {i : Nat} {x : Sh} {y : Vl}, a[i]? = some x → b[i]? = some y → p x y = false → zipAll p a b = false
  | [], _, _, _, _, h, _, _ => by simp at h
  | _ :: _, [], _, _, _, _, h, _ => by simp at h
  | x :: a, y :: b, 0, _, _, h, k, q => by simp at h k; subst h k; simp [zipAll, q]
  | x :: a, y :: b, i + 1, _, _, h, k, q => by simp at h k; simp [zipAll, zipAll_bad h k q]
theorem zipAll_ok {p : Sh → Vl → Bool} : ∀ {a : List Sh} {b : List Vl}, a.length = b.length → (∀ (i : Nat) x y, a[i]? = some x → b[i]? = some y → p x y = true) → zipAll p a b = true
  | [], [], _, _ => rfl
  | [], _ :: _, h, _ => by simp at h
  | _ :: _, [], h, _ => by simp at h
  | x :: a, y :: b, h, k => by
    have h1 := k 0 x y rfl rfl
    have h2 := zipAll_ok (p := p) (a := a) (b := b) (by simpa using h) (fun i u v e f => k (i + 1) u v (by simpa using e) (by simpa using f))
    simp [zipAll, h1, h2]
theorem dec_s (a b : Str) : decide (V.str a = V.str b) = decide (a = b) := by
  by_cases h : a = b
  · rw [h]; simp
  · rw [decide_eq_false h, decide_eq_false (fun e => h (V.str.inj e))]
theorem dec_i (a b : Int) : decide (V.int a = V.int b) = decide (a = b) := by
  by_cases h : a = b
  · rw [h]; simp
  · rw [decide_eq_false h, decide_eq_false (fun e => h (V.int.inj e))]
theorem str_ne {a b : Str} (h : a ≠ b) : decide (V.str a = V.str b) = false := by rw [dec_s]; exact decide_eq_false h
theorem pick_take {as : List Sh} {i : Nat} {a : Sh} (h : as[i]? = some a) (j : Int) : pick (as.take (i + 1)) j = if j = (i : Int) then some a else pick (as.take i) j := by
  unfold pick
  have hi := (List.getElem?_eq_some_iff.mp h).1
  by_cases h0 : 0 ≤ j
  · rw [if_pos h0, if_pos h0]
    by_cases e : j = (i : Int)
    · rw [if_pos e, show j.toNat = i by omega, List.getElem?_take, if_pos (by omega)]
      exact h
    · rw [if_neg e, List.getElem?_take, List.getElem?_take]
      by_cases l : j.toNat < i
      · rw [if_pos l, if_pos (by omega)]
      · rw [if_neg l, if_neg (by omega)]
  · rw [if_neg h0, if_neg h0, if_neg (by omega)]
theorem pick_nil (j : Int) : pick [] j = none := by
  unfold pick
  split <;> simp
theorem vars_get {m k : Nat} (h : k < m) : (vars m)[k]? = some (Sh.v (k : Int)) := by
  unfold vars
  rw [List.getElem?_map, List.getElem?_range h]
  rfl
/-! ### == with small data -/
theorem eqv_small (s : Int) (as : List Sh) (k : Int) : PyData.eqv (Sh.c s as).d (.tuple [.str "c", .int k, .tuple []]) = decide (s = k ∧ as = []) := by
  cases as with
  | nil =>
    simp only [Sh.d, Sh.ds, PyData.eqv, PyData.eqvAll]
    by_cases h : s = k <;> simp [h]
  | cons a r =>
    simp only [Sh.d, Sh.ds, PyData.eqv, PyData.eqvAll]
    simp
def Vl.isUnit : Vl → Bool
  | .tup [] => true
  | _ => false
theorem eqv_unit (v : Vl) (h : v.ok) : PyData.eqv v.d (.tuple [.str "tuple", .tuple []]) = v.isUnit := by
  cases v with
  | int i => simp only [Vl.d, PyData.eqv, PyData.eqvAll, Vl.isUnit]; simp
  | tup vs => cases vs <;> simp [Vl.d, Vl.ds, PyData.eqv, PyData.eqvAll, Vl.isUnit]
  | con0 i n => simp only [Vl.d, PyData.eqv, PyData.eqvAll, Vl.isUnit]; simp
  | con1 i n a => simp only [Vl.d, PyData.eqv, PyData.eqvAll, Vl.isUnit]; simp
  | ref i => simp only [Vl.d, PyData.eqv, PyData.eqvAll, Vl.isUnit]; simp
  | oth g r =>
    have hg : (g == ("tuple" : Str)) = false := by
      rw [beq_eq_false_iff_ne]
      exact h.2.1
    simp only [Vl.d, PyData.eqv, PyData.eqvAll, Vl.isUnit, hg, Bool.false_and]
/-! ### as objects -/
section
variable {K : PySem.W.Frag} {H : Hp}
theorem inv_v {x : V} {n : Int} (h : Rp K H x (Sh.v n).d) : ∃ a, x = .ref a ∧ SqT K H a [.str "v", .int n] := by
  simp only [Sh.d] at h
  obtain ⟨a, xs, rfl, s, r0⟩ := h.tup_inv
  obtain ⟨v1, w1, rfl, h1, r1⟩ := r0.cons_inv
  obtain ⟨v2, w2, rfl, h2, r2⟩ := r1.cons_inv
  have er := RpAll.nil_inv r2
  rw [h1.str_inv, h2.int_inv, er] at s
  exact ⟨a, rfl, s⟩
theorem inv_c {x : V} {n : Int} {l : List Sh} (h : Rp K H x (Sh.c n l).d) : ∃ a g gs, x = .ref a ∧ SqT K H a [.str "c", .int n, .ref g] ∧ SqT K H g gs ∧ RpAll K H gs (Sh.ds l) := by
  simp only [Sh.d] at h
  obtain ⟨a, xs, rfl, s, r0⟩ := h.tup_inv
  obtain ⟨v1, w1, rfl, h1, r1⟩ := r0.cons_inv
  obtain ⟨v2, w2, rfl, h2, r2⟩ := r1.cons_inv
  obtain ⟨v3, w3, rfl, h3, r3⟩ := r2.cons_inv
  obtain ⟨g, gs, rfl, sg, rg⟩ := h3.tup_inv
  have er := RpAll.nil_inv r3
  rw [h1.str_inv, h2.int_inv, er] at s
  exact ⟨a, g, gs, rfl, s, sg, rg⟩
theorem inv_t {x : V} {l : List Sh} (h : Rp K H x (Sh.t l).d) : ∃ a g gs, x = .ref a ∧ SqT K H a [.str "t", .ref g] ∧ SqT K H g gs ∧ RpAll K H gs (Sh.ds l) := by
  simp only [Sh.d] at h
  obtain ⟨a, xs, rfl, s, r0⟩ := h.tup_inv
  obtain ⟨v1, w1, rfl, h1, r1⟩ := r0.cons_inv
  obtain ⟨v3, w3, rfl, h3, r2⟩ := r1.cons_inv
  obtain ⟨g, gs, rfl, sg, rg⟩ := h3.tup_inv
  have er := RpAll.nil_inv r2
  rw [h1.str_inv, er] at s
  exact ⟨a, g, gs, rfl, s, sg, rg⟩
theorem inv_f {x : V} {p q : Sh} (h : Rp K H x (Sh.f p q).d) : ∃ a y z, x = .ref a ∧ SqT K H a [.str "f", y, z] ∧ Rp K H y p.d ∧ Rp K H z q.d := by
  simp only [Sh.d] at h
  obtain ⟨a, xs, rfl, s, r0⟩ := h.tup_inv
  obtain ⟨v1, w1, rfl, h1, r1⟩ := r0.cons_inv
  obtain ⟨v2, w2, rfl, h2, r2⟩ := r1.cons_inv
  obtain ⟨v3, w3, rfl, h3, r3⟩ := r2.cons_inv
  have er := RpAll.nil_inv r3
  rw [h1.str_inv, er] at s
  exact ⟨a, v2, v3, rfl, s, h2, h3⟩
theorem inv_tag {x : V} (v : Vl) (h : Rp K H x v.d) : ∃ a ws, x = .ref a ∧ SqT K H a (.str v.tag :: ws) := by
  obtain ⟨r, e⟩ := v.d_cons
  rw [e] at h
  obtain ⟨a, xs, rfl, s, r0⟩ := h.tup_inv
  obtain ⟨v1, w1, rfl, h1, r1⟩ := r0.cons_inv
  rw [h1.str_inv] at s
  exact ⟨a, w1, rfl, s⟩
theorem inv_tup {x : V} {l : List Vl} (h : Rp K H x (Vl.tup l).d) : ∃ a g gs, x = .ref a ∧ SqT K H a [.str "tuple", .ref g] ∧ SqT K H g gs ∧ RpAll K H gs (Vl.ds l) := by
  simp only [Vl.d] at h
  obtain ⟨a, xs, rfl, s, r0⟩ := h.tup_inv
  obtain ⟨v1, w1, rfl, h1, r1⟩ := r0.cons_inv
  obtain ⟨v3, w3, rfl, h3, r2⟩ := r1.cons_inv
  obtain ⟨g, gs, rfl, sg, rg⟩ := h3.tup_inv
  have er := RpAll.nil_inv r2
  rw [h1.str_inv, er] at s
  exact ⟨a, g, gs, rfl, s, sg, rg⟩
theorem inv_con0 {x : V} {i : Int} {n : Str} (h : Rp K H x (Vl.con0 i n).d) : ∃ a, x = .ref a ∧ SqT K H a [.str "con", .int i, .str n, .non] := by
  simp only [Vl.d] at h
  obtain ⟨a, xs, rfl, s, r0⟩ := h.tup_inv
  obtain ⟨v1, w1, rfl, h1, r1⟩ := r0.cons_inv
  obtain ⟨v2, w2, rfl, h2, r2⟩ := r1.cons_inv
  obtain ⟨v3, w3, rfl, h3, r3⟩ := r2.cons_inv
  obtain ⟨v4, w4, rfl, h4, r4⟩ := r3.cons_inv
  have er := RpAll.nil_inv r4
  rw [h1.str_inv, h2.int_inv, h3.str_inv, h4.non_inv, er] at s
  exact ⟨a, rfl, s⟩
theorem inv_con1 {x : V} {i : Int} {n : Str} {u : Vl} (h : Rp K H x (Vl.con1 i n u).d) : ∃ a y, x = .ref a ∧ SqT K H a [.str "con", .int i, .str n, .ref y] ∧ Rp K H (.ref y) u.d := by
  simp only [Vl.d] at h
  obtain ⟨a, xs, rfl, s, r0⟩ := h.tup_inv
  obtain ⟨v1, w1, rfl, h1, r1⟩ := r0.cons_inv
  obtain ⟨v2, w2, rfl, h2, r2⟩ := r1.cons_inv
  obtain ⟨v3, w3, rfl, h3, r3⟩ := r2.cons_inv
  obtain ⟨v4, w4, rfl, h4, r4⟩ := r3.cons_inv
  have er := RpAll.nil_inv r4
  rw [h1.str_inv, h2.int_inv, h3.str_inv, er] at s
  obtain ⟨y, ws, rfl, _⟩ := inv_tag u h4
  exact ⟨a, y, rfl, s, h4⟩
theorem inv_ref {x : V} {i : Int} (h : Rp K H x (Vl.ref i).d) : ∃ a, x = .ref a ∧ SqT K H a [.str "ref", .int i] := by
  simp only [Vl.d] at h
  obtain ⟨a, xs, rfl, s, r0⟩ := h.tup_inv
  obtain ⟨v1, w1, rfl, h1, r1⟩ := r0.cons_inv
  obtain ⟨v2, w2, rfl, h2, r2⟩ := r1.cons_inv
  have er := RpAll.nil_inv r2
  rw [h1.str_inv, h2.int_inv, er] at s
  exact ⟨a, rfl, s⟩
theorem inv_row {x : V} {r : Row} (h : Rp K H x r.d) : ∃ a y p q gs f, x = .ref a ∧ SqT K H a [.str "con", .str r.name, .int r.ar, y, .ref p, .int r.idx, f] ∧ Rp K H y r.argD ∧ SqT K H p [.str "c", .int r.st, .ref q] ∧ SqT K H q gs ∧ RpAll K H gs (Sh.ds (vars r.m)) := by
  simp only [Row.d] at h
  obtain ⟨a, xs, rfl, s, r0⟩ := h.tup_inv
  obtain ⟨v1, w1, rfl, h1, r1⟩ := r0.cons_inv
  obtain ⟨v2, w2, rfl, h2, r2⟩ := r1.cons_inv
  obtain ⟨v3, w3, rfl, h3, r3⟩ := r2.cons_inv
  obtain ⟨v4, w4, rfl, h4, r4⟩ := r3.cons_inv
  obtain ⟨v5, w5, rfl, h5, r5⟩ := r4.cons_inv
  obtain ⟨v6, w6, rfl, h6, r6⟩ := r5.cons_inv
  obtain ⟨v7, w7, rfl, h7, r7⟩ := r6.cons_inv
  obtain ⟨p, q, gs, rfl, s5, s6, s7⟩ := inv_c h5
  have er := RpAll.nil_inv r7
  rw [h1.str_inv, h2.str_inv, h3.int_inv, h6.int_inv, er] at s
  exact ⟨a, v4, p, q, gs, v7, rfl, s, h4, s5, s6, s7⟩
theorem Sh.ref {x : V} (s : Sh) (h : Rp K H x s.d) : ∃ a, x = .ref a := by
  cases s with
  | v n => obtain ⟨a, e, _⟩ := inv_v h; exact ⟨a, e⟩
  | c n l => obtain ⟨a, _, _, e, _⟩ := inv_c h; exact ⟨a, e⟩
  | t l => obtain ⟨a, _, _, e, _⟩ := inv_t h; exact ⟨a, e⟩
  | f p q => obtain ⟨a, _, _, e, _⟩ := inv_f h; exact ⟨a, e⟩
theorem inv_mod {x : V} {n : Str} {es : List Ent} (h : Rp K H x (Ent.mod n es).d) : ∃ a g, x = .ref a ∧ SqT K H a [.str "module", .str n, .ref g] ∧ Rp K H (.ref g) (.tuple (Ent.ds es)) := by
  simp only [Ent.d] at h
  obtain ⟨a, xs, rfl, s, r0⟩ := h.tup_inv
  obtain ⟨v1, w1, rfl, h1, r1⟩ := r0.cons_inv
  obtain ⟨v2, w2, rfl, h2, r2⟩ := r1.cons_inv
  obtain ⟨v3, w3, rfl, h3, r3⟩ := r2.cons_inv
  obtain ⟨g, gs, rfl, _, _⟩ := h3.tup_inv
  have er := RpAll.nil_inv r3
  rw [h1.str_inv, h2.str_inv, er] at s
  exact ⟨a, g, rfl, s, h3⟩
theorem inv_othE {x : V} {g : Str} {r : List PyData} (h : Rp K H x (Ent.oth g r).d) : ∃ a ws, x = .ref a ∧ SqT K H a (.str g :: ws) := by
  simp only [Ent.d] at h
  obtain ⟨a, xs, rfl, s, r0⟩ := h.tup_inv
  obtain ⟨v1, w1, rfl, h1, r1⟩ := r0.cons_inv
  rw [h1.str_inv] at s
  exact ⟨a, w1, rfl, s⟩
end
end AG

set_option Elab.async false
set_option maxRecDepth 100000
set_option linter.all false
set_option maxHeartbeats 4000000
namespace K88
open PySem L2 GD AG
section
variable {P : Program} {w : World} {K : PySem.W.Frag} {mg : Str → Option Value} {base : Heap} {A : Adr}
abbrev Sm (H H' : Hp) : Prop := ∀ a o, H a = some o → H' a = some o
theorem Sm.new {H : Hp} {p : Addr} {o : HO} (h : H p = none) : Sm H (upd H p o) := fun a u e => by
  rw [upd_ne (ne_of_none e h)]
  exact e
theorem Sm.on {H H1 : Hp} {p : Addr} {o : HO} (s : Sm H H1) (h : H1 p = none) : Sm H (upd H1 p o) := fun a u e => Sm.new h a u (s a u e)
theorem Sm.free {H H1 : Hp} {p : Addr} (s : Sm H H1) (h : H1 p = none) : H p = none := by
  cases e : H p with
  | none => rfl
  | some o =>
    rw [s _ _ e] at h
    cases h
/-- an object that was not there changes -/
theorem Sm.upd {H H1 : Hp} {p : Addr} {o : HO} (s : Sm H H1) (h : H p = none) : Sm H (L2.upd H1 p o) := fun a u e => by
  rw [upd_ne (ne_of_none e h)]
  exact s a u e
def spParts (K : PySem.W.Frag) : Sp := fun vs H Q _ => ∃ (x : V) (sh : Sh), vs = [x] ∧ Rp K H x sh.d ∧ ∀ (a : Addr) (ys : List V) (H' : Hp), Sm H H' → SqT K H' a ys → RpAll K H' ys (Sh.ds sh.parts) → Q (.ref a) H'
theorem ok_parts (T : Txt K mg A) : FnOk P w K mg base CX0 1 A.f_direct_parts A.d_direct_parts ["shape"] (spParts K) := by
  refine T.F_direct_parts.ok sc_direct_parts (fun vs H Q E h => ?_) (fun cdv Ar outer s H vs Q E hr h => ?_)
  · obtain ⟨x, sh, rfl, _⟩ := h
    rfl
  · obtain ⟨x, sh, rfl, hx, k⟩ := h
    refine ⟨_, (pss_cons (ps_if (pt_cmpR op_eq (pe_ix (ixt (K := K) rfl) (pv 0) pe_int (fun _ _ => rfl)) pe_str (nomark _)) (pss_one (ps_ret (pe_tup pa_nil))) pss_nil) (pss_cons (ps_if (pt_cmpR op_eq (pe_ix (ixt (K := K) rfl) (pv 0) pe_int (fun _ _ => rfl)) pe_str (nomark _)) (pss_one (ps_ret (pe_ix (ixt (K := K) rfl) (pv 0) pe_int (fun _ _ => rfl)))) pss_nil) (pss_cons (ps_if (pt_cmpR op_eq (pe_ix (ixt (K := K) rfl) (pv 0) pe_int (fun _ _ => rfl)) pe_str (nomark _)) (pss_one (ps_ret (pe_ix (ixt (K := K) rfl) (pv 0) pe_int (fun _ _ => rfl)))) pss_nil) (pss_one (ps_ret (pe_tup (pa_cons (pe_ix (ixt (K := K) rfl) (pv 0) pe_int (fun _ _ => rfl)) (pa_cons (pe_ix (ixt (K := K) rfl) (pv 0) pe_int (fun _ _ => rfl)) pa_nil)))))))), ?_⟩
    cases sh with
    | v n =>
      obtain ⟨a, rfl, hs⟩ := inv_v hx
      refine ⟨_, rfl, a, _, _, _, rfl, rfl, hs, rfl, rfl, _, rfl, iteY (by decide +kernel) ?_⟩
      refine ⟨Nat.zero_le _, fun p hp => ?_⟩
      exact k p [] _ (Sm.new hp) (.inl (Rd.of upd_same)) .nil
    | c n l =>
      obtain ⟨a, g, gs, rfl, hs, hg, hl⟩ := inv_c hx
      refine ⟨_, rfl, a, _, _, _, rfl, rfl, hs, rfl, rfl, _, rfl, iteN (by decide +kernel) ?_⟩
      refine ⟨_, rfl, a, _, _, _, rfl, rfl, hs, rfl, rfl, _, rfl, iteY (by decide +kernel) ?_⟩
      exact ⟨_, rfl, a, _, _, _, rfl, rfl, hs, rfl, k g gs H (fun _ _ e => e) hg hl⟩
    | t l =>
      obtain ⟨a, g, gs, rfl, hs, hg, hl⟩ := inv_t hx
      refine ⟨_, rfl, a, _, _, _, rfl, rfl, hs, rfl, rfl, _, rfl, iteN (by decide +kernel) ?_⟩
      refine ⟨_, rfl, a, _, _, _, rfl, rfl, hs, rfl, rfl, _, rfl, iteN (by decide +kernel) ?_⟩
      refine ⟨_, rfl, a, _, _, _, rfl, rfl, hs, rfl, rfl, _, rfl, iteY (by decide +kernel) ?_⟩
      exact ⟨_, rfl, a, _, _, _, rfl, rfl, hs, rfl, k g gs H (fun _ _ e => e) hg hl⟩
    | f y z =>
      obtain ⟨a, v1, v2, rfl, hs, h1, h2⟩ := inv_f hx
      refine ⟨_, rfl, a, _, _, _, rfl, rfl, hs, rfl, rfl, _, rfl, iteN (by decide +kernel) ?_⟩
      refine ⟨_, rfl, a, _, _, _, rfl, rfl, hs, rfl, rfl, _, rfl, iteN (by decide +kernel) ?_⟩
      refine ⟨_, rfl, a, _, _, _, rfl, rfl, hs, rfl, rfl, _, rfl, iteN (by decide +kernel) ?_⟩
      refine ⟨_, rfl, a, _, _, _, rfl, rfl, hs, rfl, _, rfl, a, _, _, _, rfl, rfl, hs, rfl, (show 2 ≤ sizeLine by decide), fun p hp => ?_⟩
      have kt := KT.upd_new (o := .tup [v1, v2]) hp
      refine k p [v1, v2] _ (Sm.new hp) (.inl (Rd.of upd_same)) ?_
      exact .cons (h1.on kt) (.cons (h2.on kt) .nil)
def spWith (K : PySem.W.Frag) : Sp := fun vs H Q _ => ∃ (x : V) (sh : Sh) (g : Addr) (gs : List V) (l : List Sh), vs = [x, .ref g] ∧ Rp K H x sh.d ∧ SqT K H g gs ∧ RpAll K H gs (Sh.ds l) ∧ l.length = sh.parts.length ∧
  ∀ (r : V) (H' : Hp), Sm H H' → Rp K H' r (sh.withP l).d → Q r H'
theorem ok_with (T : Txt K mg A) : FnOk P w K mg base CX0 1 A.f_with_parts A.d_with_parts ["shape", "new_parts"] (spWith K) := by
  refine T.F_with_parts.ok sc_with_parts (fun vs H Q E h => ?_) (fun cdv Ar outer s H vs Q E hr h => ?_)
  · obtain ⟨x, sh, g, gs, l, rfl, _⟩ := h
    rfl
  · obtain ⟨x, sh, g, gs, l, rfl, hx, hg, hl, hn, k⟩ := h
    refine ⟨_, (pss_cons (ps_if (pt_cmpR op_eq (pe_ix (ixt (K := K) rfl) (pv 0) pe_int (fun _ _ => rfl)) pe_str (nomark _)) (pss_one (ps_ret (pv 0))) pss_nil) (pss_cons (ps_if (pt_cmpR op_eq (pe_ix (ixt (K := K) rfl) (pv 0) pe_int (fun _ _ => rfl)) pe_str (nomark _)) (pss_one (ps_ret (pe_tup (pa_cons pe_str (pa_cons (pe_ix (ixt (K := K) rfl) (pv 0) pe_int (fun _ _ => rfl)) (pa_cons (pv 1) pa_nil)))))) pss_nil) (pss_cons (ps_if (pt_cmpR op_eq (pe_ix (ixt (K := K) rfl) (pv 0) pe_int (fun _ _ => rfl)) pe_str (nomark _)) (pss_one (ps_ret (pe_tup (pa_cons pe_str (pa_cons (pv 1) pa_nil))))) pss_nil) (pss_one (ps_ret (pe_tup (pa_cons pe_str (pa_cons (pe_ix (ixt (K := K) rfl) (pv 1) pe_int (fun _ _ => rfl)) (pa_cons (pe_ix (ixt (K := K) rfl) (pv 1) pe_int (fun _ _ => rfl)) pa_nil))))))))), ?_⟩
    cases sh with
    | v n =>
      have hx0 := hx
      obtain ⟨a, rfl, hs⟩ := inv_v hx
      refine ⟨_, rfl, a, _, _, _, rfl, rfl, hs, rfl, rfl, _, rfl, iteY (by decide +kernel) ?_⟩
      exact ⟨_, rfl, k _ _ (fun _ _ e => e) hx0⟩
    | c n l0 =>
      obtain ⟨a, g0, gs0, rfl, hs, _, _⟩ := inv_c hx
      refine ⟨_, rfl, a, _, _, _, rfl, rfl, hs, rfl, rfl, _, rfl, iteN (by decide +kernel) ?_⟩
      refine ⟨_, rfl, a, _, _, _, rfl, rfl, hs, rfl, rfl, _, rfl, iteY (by decide +kernel) ?_⟩
      refine ⟨_, rfl, a, _, _, _, rfl, rfl, hs, rfl, _, rfl, (show 3 ≤ sizeLine by decide), fun p hp => ?_⟩
      refine k _ _ (Sm.new hp) ?_
      simp only [Sh.withP, Sh.d]
      have kt := KT.upd_new (o := .tup [.str "c", .int n, .ref g]) hp
      exact Rp.mk upd_same (.cons (.str _ (by decide +kernel)) (.cons (.int _) (.cons (.tup (kt.sqt hg) (hl.on kt)) .nil)))
    | t l0 =>
      obtain ⟨a, g0, gs0, rfl, hs, _, _⟩ := inv_t hx
      refine ⟨_, rfl, a, _, _, _, rfl, rfl, hs, rfl, rfl, _, rfl, iteN (by decide +kernel) ?_⟩
      refine ⟨_, rfl, a, _, _, _, rfl, rfl, hs, rfl, rfl, _, rfl, iteN (by decide +kernel) ?_⟩
      refine ⟨_, rfl, a, _, _, _, rfl, rfl, hs, rfl, rfl, _, rfl, iteY (by decide +kernel) ?_⟩
      refine ⟨_, rfl, (show 2 ≤ sizeLine by decide), fun p hp => ?_⟩
      refine k _ _ (Sm.new hp) ?_
      simp only [Sh.withP, Sh.d]
      have kt := KT.upd_new (o := .tup [.str "t", .ref g]) hp
      exact Rp.mk upd_same (.cons (.str _ (by decide +kernel)) (.cons (.tup (kt.sqt hg) (hl.on kt)) .nil))
    | f y z =>
      obtain ⟨a, v1, v2, rfl, hs, _, _⟩ := inv_f hx
      match l, hn, hl with
      | [l1, l2], _, hl =>
        simp only [Sh.ds] at hl
        obtain ⟨y1, w1, rfl, q1, hl⟩ := hl.cons_inv
        obtain ⟨y2, w2, rfl, q2, hl⟩ := hl.cons_inv
        have er := RpAll.nil_inv hl
        subst er
        refine ⟨_, rfl, a, _, _, _, rfl, rfl, hs, rfl, rfl, _, rfl, iteN (by decide +kernel) ?_⟩
        refine ⟨_, rfl, a, _, _, _, rfl, rfl, hs, rfl, rfl, _, rfl, iteN (by decide +kernel) ?_⟩
        refine ⟨_, rfl, a, _, _, _, rfl, rfl, hs, rfl, rfl, _, rfl, iteN (by decide +kernel) ?_⟩
        refine ⟨_, rfl, g, _, _, _, rfl, rfl, hg, rfl, _, rfl, g, _, _, _, rfl, rfl, hg, rfl, (show 3 ≤ sizeLine by decide), fun p hp => ?_⟩
        refine k _ _ (Sm.new hp) ?_
        simp only [Sh.withP, Sh.d]
        have kt := KT.upd_new (o := .tup [.str "f", y1, y2]) hp
        exact Rp.mk upd_same (.cons (.str _ (by decide +kernel)) (.cons (q1.on kt) (.cons (q2.on kt) .nil)))
/-! ### replacing -/
def MapAt (K : PySem.W.Frag) (H : Hp) (m : Addr) (as : List Sh) : Prop := ∃ kvs : List (Key × V), H m = some (.dK kvs) ∧ ∀ i : Int, match pick as i with
  | some s => ∃ x, valV kvs (Sum.inl i) = some x ∧ Rp K H x s.d
  | none => valV kvs (Sum.inl i) = none
theorem MapAt.keep {H H' : Hp} {m : Addr} {as : List Sh} (h : MapAt K H m as) (s : Sm H H') : MapAt K H' m as := by
  obtain ⟨kvs, e, q⟩ := h
  refine ⟨kvs, s _ _ e, fun i => ?_⟩
  have := q i
  split at this
  · obtain ⟨x, e1, r⟩ := this
    exact ⟨x, e1, r.on (KT.same s)⟩
  · exact this
def spRepl (K : PySem.W.Frag) (n : Nat) : Sp := fun vs H Q _ => ∃ (x : V) (sh : Sh) (m : Addr) (as : List Sh), vs = [x, .ref m] ∧ Rp K H x sh.d ∧ sh.dep ≤ n ∧ sh.dep ≤ 1000 ∧ MapAt K H m as ∧ ∀ (r : V) (H' : Hp), Sm H H' → Rp K H' r (repl as sh).d → Q r H'
theorem dep_pos (s : Sh) : 0 < s.dep := by cases s <;> (simp only [Sh.dep]; omega)
theorem ok_repl (T : Txt K mg A) : ∀ n : Nat, FnOk P w K mg base CX0 (n + 2) A.f_replace_variables A.d_replace_variables ["shape", "mapping"] (spRepl K n)
  | 0 => by
    refine T.F_replace_variables.ok sc_replace_variables (fun vs H Q E h => ?_) (fun cdv Ar outer s H vs Q E hr h => ?_)
    · obtain ⟨x, sh, m, as, rfl, _⟩ := h
      rfl
    · obtain ⟨x, sh, m, as, rfl, _, h0, _⟩ := h
      have := dep_pos sh
      omega
  | n + 1 => by
    have G_direct_parts : FnOk P w K mg base CX0 1 A.f_direct_parts A.d_direct_parts _ _ := ok_parts T
    have G_with_parts : FnOk P w K mg base CX0 1 A.f_with_parts A.d_with_parts _ _ := ok_with T
    have G_replace_variables : FnOk P w K mg base CX0 (n + 2) A.f_replace_variables A.d_replace_variables _ _ := ok_repl T n
    refine T.F_replace_variables.ok sc_replace_variables (fun vs H Q E h => ?_) (fun cdv Ar outer s H vs Q E hr h => ?_)
    · obtain ⟨x, sh, m, as, rfl, _⟩ := h
      rfl
    · obtain ⟨x, sh, m, as, rfl, hx, hd, hd2, hm, k⟩ := h
      refine ⟨_, (pss_cons (ps_if (pt_cmpR op_eq (pe_ix (ixt (K := K) rfl) (pv 0) pe_int (fun _ _ => rfl)) pe_str (nomark _)) (pss_one (ps_ret (pe_dget2 (hu_of hr) (pv 1) (pe_ix (ixt (K := K) rfl) (pv 0) pe_int (fun _ _ => rfl)) (pv 0) ⟨rfl, rfl, rfl, rfl⟩))) pss_nil) (pss_cons (ps_set (i := 2) sc_replace_variables.nd rfl (Or.inl rfl) (pe_callTy call_tuple_of (by rfl) T.n_tuple (by decide +kernel) (pa_cons (pe_lc (own := [("part", 3)]) (g := gName 3) (tt := tYes) rfl sc_replace_variables.nd (pi_tup (pe_call G_direct_parts (hr.mono (by first | decide | omega)) rfl T.g_direct_parts T.F_direct_parts.kp T.b_direct_parts .nil pass0 (pa_cons (pv 0) pa_nil))) (blkOk_by (N := N_replace_variables) (sc := defScope s_replace_variables) (by decide +kernel)) (fun _ _ _ _ _ => (pg_name (i := 3) sc_replace_variables.nd rfl (Or.inl rfl))) (fun _ _ _ _ _ => pts_nil) (fun _ _ _ _ _ => (pe_call G_replace_variables (hr.mono (by first | decide | omega)) rfl T.g_replace_variables T.F_replace_variables.kp T.b_replace_variables .nil pass0 (pa_cons (pv 3) (pa_cons (pv 1) pa_nil))))) pa_nil))) (pss_one (ps_ret (pe_call G_with_parts (hr.mono (by first | decide | omega)) rfl T.g_with_parts T.F_with_parts.kp T.b_with_parts .nil pass0 (pa_cons (pv 0) (pa_cons (pv 2) pa_nil))))))), ?_⟩
      have hx0 := hx
      have tag : ∃ a t ws, x = .ref a ∧ SqT K H a (.str t :: ws) ∧ (sh.isV = false → decide (V.str t = V.str "v") = false) := by
        cases sh with
        | v i => obtain ⟨a, rfl, hs⟩ := inv_v hx; exact ⟨a, _, _, rfl, hs, fun z => nomatch z⟩
        | c i l => obtain ⟨a, _, _, rfl, hs, _⟩ := inv_c hx; exact ⟨a, _, _, rfl, hs, fun _ => by decide +kernel⟩
        | t l => obtain ⟨a, _, _, rfl, hs, _⟩ := inv_t hx; exact ⟨a, _, _, rfl, hs, fun _ => by decide +kernel⟩
        | f y z => obtain ⟨a, _, _, rfl, hs, _⟩ := inv_f hx; exact ⟨a, _, _, rfl, hs, fun _ => by decide +kernel⟩
      cases hv : sh.isV with
      | true =>
        cases sh with
        | v i =>
          obtain ⟨a, rfl, hs⟩ := inv_v hx
          refine ⟨_, rfl, a, _, _, _, rfl, rfl, hs, rfl, rfl, _, rfl, iteY (by decide +kernel) ?_⟩
          obtain ⟨kvs, em, q⟩ := hm
          refine ⟨_, rfl, m, rfl, .inl ⟨kvs, Rd.of em⟩, _, rfl, a, _, _, _, rfl, rfl, hs, rfl, _, rfl, _, DGet.k (k := Sum.inl i) em, ?_⟩
          have qi := q i
          cases e : pick as i with
          | some s0 =>
            rw [e] at qi
            obtain ⟨y, ey, hy⟩ := qi
            rw [ey]
            refine k y H (fun _ _ e => e) ?_
            simp only [repl, e, Option.getD_some]
            exact hy
          | none =>
            rw [e] at qi
            rw [qi]
            refine k _ H (fun _ _ e => e) ?_
            simp only [repl, e, Option.getD_none]
            exact hx0
        | c i l => cases hv
        | t l => cases hv
        | f y z => cases hv
      | false =>
        obtain ⟨a, t, ws, rfl, hs, nt⟩ := tag
        refine ⟨_, rfl, a, _, _, _, rfl, rfl, hs, at0, rfl, _, rfl, iteN (nt hv) ?_⟩
        refine ⟨_, rfl, _, sh, rfl, hx0, fun g ys H1 s1 hg hl => ⟨g, rfl, ⟨_, hg⟩, fun D hD => ?_⟩⟩
        have hlen : ys.length = sh.parts.length := by rw [hl.length, ds_len]
        have hD0 : H D = none := s1.free hD
        refine lc_tup (xs := ys) (fun i H' => Sm H1 H' ∧ ∃ acc : List V, H' D = some (.lst acc) ∧ acc.length = i ∧ RpAll K H' acc (Sh.ds ((repls as sh.parts).take i))) ?_ ?_ ?_ ?_
        · exact ⟨Sm.new hD, [], upd_same, rfl, by simp only [List.take_zero, Sh.ds]; exact .nil⟩
        · rintro i H' _ ⟨s2, _⟩
          exact (KT.same s2).sqt hg
        · rintro i y H' hy ⟨s2, acc, hacc, hla, hra⟩
          have hi : i < sh.parts.length := by
            have := (List.getElem?_eq_some_iff.mp hy).1
            omega
          have ep : sh.parts[i]? = some sh.parts[i] := List.getElem?_eq_getElem hi
          have ed : (Sh.ds sh.parts)[i]? = some (sh.parts[i]).d := by rw [ds_map, List.getElem?_map, ep]; rfl
          obtain ⟨y', ey, ry⟩ := hl.get ed
          rw [hy] at ey
          cases ey
          have hdep := parts_dep (List.getElem_mem hi)
          have s02 : Sm H H' := fun a o e => s2 _ _ (s1 _ _ e)
          refine ⟨rfl, tYes_do ?_⟩
          refine ⟨_, rfl, _, rfl, y, sh.parts[i], m, as, rfl, ry.on (KT.same s2), by omega, by omega, hm.keep s02, fun r H2 s3 hr3 => ?_⟩
          have hD2 : H2 D = some (.lst acc) := s3 _ _ hacc
          have kt2 : KT H2 (upd H2 D (.lst (acc ++ [r]))) := KT.upd_lst (NT.lst hD2)
          have hpl := parts_len sh
          refine ⟨acc, hD2, small_lt (by omega), ?_, acc ++ [r], upd_same, by simp [hla], ?_⟩
          · exact (show Sm H1 H2 from fun a o e => s3 _ _ (s2 _ _ e)).upd hD
          · have e1 : (repls as sh.parts).take (i + 1) = (repls as sh.parts).take i ++ [repl as sh.parts[i]] := by
              rw [repls_map, List.take_add_one, List.getElem?_map, ep]
              rfl
            rw [e1, ds_map, List.map_append, ← ds_map]
            refine RpAll.app ((hra.on (KT.same s3)).on kt2) (.cons (hr3.on kt2) .nil)
        · rintro H2 ⟨s2, acc, hacc, hla, hra⟩
          have hr2 : (repls as sh.parts).take ys.length = repls as sh.parts := by
            rw [List.take_of_length_le]
            rw [repls_map, List.length_map]
            omega
          rw [hr2] at hra
          refine ⟨D, _, rfl, .inl ⟨SqL.of hacc, fun p hp => ?_⟩⟩
          have s02 : Sm H H2 := fun a o e => s2 _ _ (s1 _ _ e)
          have s03 : Sm H (upd H2 p (.tup acc)) := s02.on hp
          refine ⟨_, rfl, _, rfl, _, sh, p, acc, repls as sh.parts, rfl, hx0.on (KT.same s03), .inl (Rd.of upd_same), hra.on (KT.upd_new hp), by rw [repls_map, List.length_map], fun r H3 s3 hr3 => ?_⟩
          refine k r H3 (fun a o e => s3 _ _ (s03 _ _ e)) ?_
          rw [repl_parts as hv]
          exact hr3
end
end K88

set_option Elab.async false
set_option maxRecDepth 100000
set_option linter.all false
set_option maxHeartbeats 4000000
namespace K88
open PySem L2 GD AG
section
variable {P : Program} {w : World} {K : PySem.W.Frag} {mg : Str → Option Value} {base : Heap} {A : Adr}
theorem Sm.refl {H : Hp} : Sm H H := fun _ _ e => e
theorem Sm.trans {H H1 H2 : Hp} (h : Sm H H1) (k : Sm H1 H2) : Sm H H2 := fun a o e => k a o (h a o e)
def rd (rows : List Row) : List PyData := rows.map Row.d
def spCon (K : PySem.W.Frag) (n : Nat) : Sp := fun vs H Q _ => ∃ (x : V) (es : List Ent), vs = [x] ∧ Rp K H x (.tuple (Ent.ds es)) ∧ Ent.oks es ∧ Ent.deps es < n ∧ (Ent.rowss es).length ≤ 1000 ∧
  ∀ (D : Addr) (ys : List V) (H' : Hp), Sm H H' → H D = none → H' D = some (.lst ys) → RpAll K H' ys (rd (Ent.rowss es)) → Q (.ref D) H'
theorem rowss_take {es : List Ent} {i : Nat} {e : Ent} (h : es[i]? = some e) : Ent.rowss (es.take (i + 1)) = Ent.rowss (es.take i) ++ e.rows := by
  rw [List.take_add_one, h, rowss_app]
  simp [Ent.rowss]
theorem rowss_le (es : List Ent) (i : Nat) : (Ent.rowss (es.take i)).length ≤ (Ent.rowss es).length := by
  have e : Ent.rowss es = Ent.rowss (es.take i) ++ Ent.rowss (es.drop i) := by rw [← rowss_app, List.take_append_drop]
  rw [e, List.length_append]
  omega
theorem rd_app (a b : List Row) : rd (a ++ b) = rd a ++ rd b := List.map_append
theorem rd_len (a : List Row) : (rd a).length = a.length := List.length_map _
theorem ok_con (T : Txt K mg A) : ∀ n : Nat, FnOk P w K mg base CX0 (n + 1) A.f_constructor_entries A.d_constructor_entries ["entries"] (spCon K n) := by
  intro n
  induction n with
  | zero =>
    refine T.F_constructor_entries.ok sc_constructor_entries (fun vs H Q E h => ?_) (fun cdv Ar outer s H vs Q E hr h => ?_)
    · obtain ⟨x, es, rfl, _⟩ := h
      rfl
    · obtain ⟨x, es, rfl, _, _, h0, _⟩ := h
      exact absurd h0 (Nat.not_lt_zero _)
  | succ n ih =>
    have G_constructor_entries : FnOk P w K mg base CX0 (n + 1) A.f_constructor_entries A.d_constructor_entries _ _ := ih
    refine T.F_constructor_entries.ok sc_constructor_entries (fun vs H Q E h => ?_) (fun cdv Ar outer s H vs Q E hr h => ?_)
    · obtain ⟨x, es, rfl, _⟩ := h
      rfl
    · obtain ⟨x, es, rfl, hx, hoks, hdep, hfew, k⟩ := h
      refine ⟨_, (pss_cons (ps_set (i := 1) sc_constructor_entries.nd rfl (Or.inl rfl) (pe_lst pa_nil)) (pss_cons (ps_for PassesOwn.never rfl (pi_tup (pv 0)) (pg_name (i := 2) sc_constructor_entries.nd rfl (Or.inl rfl)) (pss_one (ps_if (pt_cmpR op_eq (pe_ix (ixt (K := K) rfl) (pv 2) pe_int (fun _ _ => rfl)) pe_str (nomark _)) (pss_one (ps_expr (pe_bm PySem.F.plainAttrs_list PySem.F.slot_list_append PySem.F.type_list_append mt_append (pv 1) (pa_cons (pv 2) pa_nil)))) (pss_one (ps_if (pt_cmpR op_eq (pe_ix (ixt (K := K) rfl) (pv 2) pe_int (fun _ _ => rfl)) pe_str (nomark _)) (pss_one (ps_set (i := 1) sc_constructor_entries.nd rfl (Or.inl rfl) (pe_op op_cat (pv 1) (pe_call G_constructor_entries (hr.mono (by first | decide | omega)) rfl T.g_constructor_entries T.F_constructor_entries.kp T.b_constructor_entries .nil pass0 (pa_cons (pe_ix (ixt (K := K) rfl) (pv 2) pe_int (fun _ _ => rfl)) pa_nil))))) pss_nil))))) (pss_one (ps_ret (pv 1))))), ?_⟩
      obtain ⟨a, xs, rfl, hs, hxs⟩ := hx.tup_inv
      have hlen : xs.length = es.length := by rw [hxs.length, eds_map, List.length_map]
      refine ⟨Nat.zero_le _, fun F0 hF0 => ?_⟩
      refine ⟨_, rfl, a, rfl, ⟨xs, (KT.upd_new hF0).sqt hs⟩, for_tup (xs := xs) (fun i σ' H' => ∃ (F : Addr) (acc : List V) (v2 : Option V), σ' = [some (.ref a), some (.ref F), v2] ∧ Sm H H' ∧ H F = none ∧ H' F = some (.lst acc) ∧ RpAll K H' acc (rd (Ent.rowss (es.take i)))) ?_ ?_ ?_ ?_⟩
      · exact ⟨F0, [], none, rfl, Sm.new hF0, hF0, upd_same, by simp only [List.take_zero, Ent.rowss, rd, List.map_nil]; exact .nil⟩
      · rintro i σ' H' _ ⟨F, acc, v2, rfl, s1, _⟩
        exact (KT.same s1).sqt hs
      · rintro i y σ' H' hy ⟨F, acc, v2, rfl, s1, hF, hacc, hra⟩
        have hi : i < es.length := by
          have := (List.getElem?_eq_some_iff.mp hy).1
          omega
        have ee : es[i]? = some es[i] := List.getElem?_eq_getElem hi
        have ed : (Ent.ds es)[i]? = some (es[i]).d := by rw [eds_map, List.getElem?_map, ee]; rfl
        obtain ⟨y', ey, ry⟩ := hxs.get ed
        rw [hy] at ey
        cases ey
        have ry1 := ry.on (KT.same s1)
        have hok := oks_mem hoks (List.getElem_mem hi)
        have hdp := deps_memE (List.getElem_mem hi)
        have et := rowss_take ee
        have hla : acc.length = (Ent.rowss (es.take i)).length := by rw [hra.length, rd_len]
        have hle := rowss_le es i
        have hle1 := rowss_le es (i + 1)
        generalize es[i] = e at ry ry1 hok hdp et
        rw [et] at hle1 ⊢
        rw [List.length_append] at hle1
        cases e with
        | con r =>
          obtain ⟨b, y1, p, q, gs, f, rfl, hb, _⟩ := inv_row ry1
          refine ⟨_, rfl, b, _, _, _, rfl, rfl, hb, at0, rfl, _, rfl, iteY (by decide +kernel) ?_⟩
          refine ⟨_, rfl, .inl ⟨rfl, _, SqL.of hacc⟩, _, rfl, F, _, _, rfl, rfl, hacc, small_lt (by omega), ?_⟩
          have kt : KT H' (upd H' F (.lst (acc ++ [.ref b]))) := KT.upd_lst (NT.lst hacc)
          refine ⟨F, _, _, rfl, s1.upd hF, hF, upd_same, ?_⟩
          rw [rd_app]
          exact RpAll.app (hra.on kt) (.cons (ry1.on kt) .nil)
        | mod nm l =>
          obtain ⟨b, g, rfl, hb, hg⟩ := inv_mod ry1
          refine ⟨_, rfl, b, _, _, _, rfl, rfl, hb, at0, rfl, _, rfl, iteN (by decide +kernel) ?_⟩
          refine ⟨_, rfl, b, _, _, _, rfl, rfl, hb, at0, rfl, _, rfl, iteY (by decide +kernel) ?_⟩
          simp only [Ent.rows] at hle1 ⊢
          simp only [Ent.dep] at hdp
          simp only [Ent.ok] at hok
          refine ⟨_, rfl, _, rfl, b, _, _, _, rfl, rfl, hb, at2, .ref g, l, rfl, hg, hok, by omega, by omega, fun D ys H2 s2 hD hys hrys => ?_⟩
          have hys2 := hrys.length
          rw [rd_len] at hys2
          refine ⟨F, D, _, _, rfl, rfl, s2 _ _ hacc, hys, small_le (by omega), fun p hp => ?_⟩
          have s12 : Sm H H2 := s1.trans s2
          refine ⟨p, _, _, rfl, s12.on hp, s12.free hp, upd_same, ?_⟩
          rw [rd_app]
          exact RpAll.app ((hra.on (KT.same s2)).on (KT.upd_new hp)) (hrys.on (KT.upd_new hp))
        | oth g r =>
          obtain ⟨b, ws, rfl, hb⟩ := inv_othE ry1
          simp only [Ent.ok] at hok
          refine ⟨_, rfl, b, _, _, _, rfl, rfl, hb, at0, rfl, _, rfl, iteN (str_ne hok.1) ?_⟩
          refine ⟨_, rfl, b, _, _, _, rfl, rfl, hb, at0, rfl, _, rfl, iteN (str_ne hok.2) ?_⟩
          simp only [Ent.rows, List.append_nil]
          exact ⟨F, acc, _, rfl, s1, hF, hacc, hra⟩
      · rintro σ' H' ⟨F, acc, v2, rfl, s1, hF, hacc, hra⟩
        rw [List.take_of_length_le (by omega)] at hra
        exact ⟨_, rfl, k F acc H' s1 hF hacc hra⟩
def spCof (K : PySem.W.Frag) : Sp := fun vs H Q _ => ∃ (x : V) (s : Int) (es : List Ent), vs = [x, .int s] ∧ Rp K H x (.tuple (Ent.ds es)) ∧ Ent.oks es ∧ Ent.deps es ≤ 3 ∧ (Ent.rowss es).length ≤ 1000 ∧
  ∀ (D : Addr) (ys : List V) (H' : Hp), Sm H H' → H D = none → H' D = some (.lst ys) → RpAll K H' ys (rd (rowsOf (Ent.rowss es) s)) → Q (.ref D) H'
theorem ok_cof (T : Txt K mg A) : FnOk P w K mg base CX0 6 A.f_constructors_of A.d_constructors_of ["entries", "stamp"] (spCof K) := by
  have G_constructor_entries : FnOk P w K mg base CX0 5 A.f_constructor_entries A.d_constructor_entries _ _ := ok_con T 4
  refine T.F_constructors_of.ok sc_constructors_of (fun vs H Q E h => ?_) (fun cdv Ar outer s H vs Q E hr h => ?_)
  · obtain ⟨x, n, es, rfl, _⟩ := h
    rfl
  · obtain ⟨x, n, es, rfl, hx, hoks, hdep, hfew, k⟩ := h
    refine ⟨_, (pss_one (ps_ret (pe_lc (own := [("entry", 2)]) (g := gName 2) rfl sc_constructors_of.nd (pi_list (pe_call G_constructor_entries (hr.mono (by first | decide | omega)) rfl T.g_constructor_entries T.F_constructor_entries.kp T.b_constructor_entries .nil pass0 (pa_cons (pv 0) pa_nil))) (blkOk_by (N := N_constructors_of) (sc := defScope s_constructors_of) (by decide +kernel)) (fun _ _ _ _ _ => (pg_name (i := 2) sc_constructors_of.nd rfl (Or.inl rfl))) (fun _ _ _ _ _ => (pts_one (pt_cmpR op_eq (pe_ix (ixt (K := K) rfl) (pe_ix (ixt (K := K) rfl) (pv 2) pe_int (fun _ _ => rfl)) pe_int (fun _ _ => rfl)) (pv 1) (nomark _)))) (fun _ _ _ _ _ => (pv 2))))), ?_⟩
    refine ⟨_, rfl, x, es, rfl, hx, hoks, by omega, hfew, fun F ys H1 s1 hF hys hrys => ⟨F, rfl, ⟨_, SqL.of hys⟩, fun D hD => ?_⟩⟩
    have nFD : F ≠ D := ne_of_none hys hD
    have hD0 : H D = none := s1.free hD
    refine lc_list (xs := ys) (fun i H' => Sm H1 H' ∧ ∃ acc : List V, H' D = some (.lst acc) ∧ RpAll K H' acc (rd (rowsOf ((Ent.rowss es).take i) n))) ?_ ?_ ?_ ?_
    · exact ⟨Sm.new hD, [], upd_same, by simp only [List.take_zero, rowsOf, List.filter_nil, rd, List.map_nil]; exact .nil⟩
    · rintro i H' _ ⟨s2, _⟩
      exact SqL.of (s2 _ _ hys)
    · rintro i y H' hy ⟨s2, acc, hacc, hra⟩
      have hyl : ys.length = (Ent.rowss es).length := by rw [hrys.length, rd_len]
      have hi : i < (Ent.rowss es).length := by
        have := (List.getElem?_eq_some_iff.mp hy).1
        omega
      have ee : (Ent.rowss es)[i]? = some (Ent.rowss es)[i] := List.getElem?_eq_getElem hi
      have ed : (rd (Ent.rowss es))[i]? = some ((Ent.rowss es)[i]).d := by unfold rd; rw [List.getElem?_map, ee]; rfl
      obtain ⟨y', ey, ry⟩ := hrys.get ed
      rw [hy] at ey
      cases ey
      have ry1 := ry.on (KT.same s2)
      have hal : acc.length ≤ i := by
        rw [hra.length, rd_len]
        exact Nat.le_trans (List.length_filter_le _ _) (by rw [List.length_take]; omega)
      have et : rowsOf ((Ent.rowss es).take (i + 1)) n = rowsOf ((Ent.rowss es).take i) n ++ (if (Ent.rowss es)[i].st = n then [(Ent.rowss es)[i]] else []) := by
        unfold rowsOf
        rw [List.take_add_one, ee, List.filter_append]
        congr 1
        by_cases h : (Ent.rowss es)[i].st = n <;> simp [h]
      rw [et]
      generalize (Ent.rowss es)[i] = r at ry ry1
      obtain ⟨b, y1, p, q, gs, f, rfl, hb, _, hp, _⟩ := inv_row ry1
      refine ⟨rfl, ?_⟩
      refine ⟨_, rfl, b, _, _, _, rfl, rfl, hb, atI_nat (j := 4) rfl, p, _, _, _, rfl, rfl, hp, at1, _, rfl, rfl, _, rfl, ?_⟩
      rw [dec_i]
      by_cases c : r.st = n
      · rw [decide_eq_true c, if_pos c]
        refine iteT (B := _) ?_
        have kt : KT H' (upd H' D (.lst (acc ++ [.ref b]))) := KT.upd_lst (NT.lst hacc)
        refine ⟨_, rfl, acc, hacc, small_lt (by omega), s2.upd hD, _, upd_same, ?_⟩
        rw [rd_app]
        exact RpAll.app (hra.on kt) (.cons (ry1.on kt) .nil)
      · rw [decide_eq_false c, if_neg c, List.append_nil]
        exact iteF (A := _) ⟨s2, acc, hacc, hra⟩
    · rintro H' ⟨s2, acc, hacc, hra⟩
      rw [List.take_of_length_le (by rw [hrys.length, rd_len]; exact Nat.le_refl _)] at hra
      exact k D acc H' (s1.trans s2) hD0 hacc hra
end
end K88

set_option Elab.async false
set_option maxRecDepth 100000
set_option linter.all false
set_option maxHeartbeats 40000000
namespace K88
open PySem L2 GD AG
section
variable {P : Program} {w : World} {K : PySem.W.Frag} {mg : Str → Option Value} {base : Heap} {A : Adr}
/-- the arguments of the three -/
structure Arg (K : PySem.W.Frag) (ar : Int → Nat) (H : Hp) (ex sx : V) (es : List Ent) (st : List Vl) : Prop where
  env : AG.Env ar es st
  ents : Rp K H ex (.tuple (Ent.ds es))
  sto : Rp K H sx (.tuple (Vl.ds st))
theorem Arg.on {ar : Int → Nat} {H H' : Hp} {ex sx : V} {es : List Ent} {st : List Vl} (h : Arg K ar H ex sx es st) (s : Sm H H') : Arg K ar H' ex sx es st := ⟨h.env, h.ents.on (KT.same s), h.sto.on (KT.same s)⟩
def spAgr (K : PySem.W.Frag) (n : Nat) : Sp := fun vs H Q _ => ∃ (ar : Int → Nat) (ex x vx sx : V) (d : Int) (es : List Ent) (st : List Vl) (sh : Sh) (v : Vl), vs = [ex, x, vx, sx, .int d] ∧ d ≤ n ∧ Arg K ar H ex sx es st ∧
  Rp K H x sh.d ∧ sh.fit ar ∧ Rp K H vx v.d ∧ v.oka ∧ ∀ H', Sm H H' → Q (.bl (agr (Ent.rowss es) st d.toNat sh v)) H'
/-- a value of a constructor: name and argument against a row -/
def agrE (rows : List Row) (st : List Vl) (n : Nat) (as : List Sh) (r : Row) : Vl → Bool
  | .con0 _ x => decide (x = r.name) && r.arg.isNone
  | .con1 _ x u => decide (x = r.name) && (match r.arg with
    | none => false
    | some a => agr rows st n (repl as a) u)
  | _ => false
def Vl.isCon : Vl → Bool
  | .con0 _ _ => true
  | .con1 _ _ _ => true
  | _ => false
def spEnt (K : PySem.W.Frag) (n : Nat) : Sp := fun vs H Q _ => ∃ (ar : Int → Nat) (ex rx vx sx : V) (g : Addr) (gs : List V) (d : Int) (es : List Ent) (st : List Vl) (r : Row) (as : List Sh) (v : Vl), vs = [ex, rx, .ref g, vx, sx, .int d] ∧ 0 < d ∧ d ≤ (n : Int) + 1 ∧ Arg K ar H ex sx es st ∧
  Rp K H rx r.d ∧ RowOk ar r ∧ as.length ≤ r.m ∧ SqT K H g gs ∧ RpAll K H gs (Sh.ds as) ∧ Sh.fits ar as ∧ Rp K H vx v.d ∧ v.oka ∧ Vl.isCon v = true ∧ ∀ H', Sm H H' → Q (.bl (agrE (Ent.rowss es) st (d - 1).toNat as r v)) H'
theorem ok_ent (T : Txt K mg A) (n : Nat) (ih : FnOk P w K mg base CX0 (3 * n + 12) A.f_agrees A.d_agrees ["entries", "shape", "value", "store", "depth"] (spAgr K n)) : FnOk P w K mg base CX0 (3 * n + 13) A.f_agrees_with_entry A.d_agrees_with_entry ["entries", "entry", "args", "value", "store", "depth"] (spEnt K n) := by
  have G_agrees : FnOk P w K mg base CX0 (3 * n + 12) A.f_agrees A.d_agrees _ _ := ih
  have G_replace_variables : FnOk P w K mg base CX0 10 A.f_replace_variables A.d_replace_variables _ _ := ok_repl T 8
  refine T.F_agrees_with_entry.ok (k := 3 * n + 12) sc_agrees_with_entry (fun vs H Q E h => ?_) (fun cdv Ar outer s H vs Q E hr h => ?_)
  · obtain ⟨ar, ex, rx, vx, sx, g, gs, d, es, st, r, as, v, rfl, _⟩ := h
    rfl
  · obtain ⟨ar, ex, rx, vx, sx, g, gs, d, es, st, r, as, v, rfl, hd0, hd1, ha, hr1, hro, hm', hg, hgs, hfa, hv, hvo, hvc, k⟩ := h
    refine ⟨_, (pss_cons (ps_if (PW.pt (pw_or (pt_cmpR op_ne (pe_ix (ixt (K := K) rfl) (pv 3) pe_int (fun _ _ => rfl)) (pe_ix (ixt (K := K) rfl) (pv 1) pe_int (fun _ _ => rfl)) (nomark _)) (pw_or1 (pt_cmpR op_ne (pe_cmpR op_isN (pe_ix (ixt (K := K) rfl) (pv 3) pe_int (fun _ _ => rfl)) pe_non (nomark _)) (pe_cmpR op_isN (pe_ix (ixt (K := K) rfl) (pv 1) pe_int (fun _ _ => rfl)) pe_non (nomark _)) (nomark _))))) (pss_one (ps_ret pe_bl)) pss_nil) (pss_cons (ps_if (pt_cmpR op_isN (pe_ix (ixt (K := K) rfl) (pv 3) pe_int (fun _ _ => rfl)) pe_non (nomark _)) (pss_one (ps_ret pe_bl)) pss_nil) (pss_cons (ps_set (i := 6) sc_agrees_with_entry.nd rfl (Or.inl rfl) pe_dnewK) (pss_cons (ps_for PassesOwn.never rfl (pi_range1 rfl T.n_range (pa_cons (pe_callB call_len_seq (by rfl) T.n_len PySem.boot_len (pa_cons (pv 2) pa_nil)) pa_nil)) (pg_name (i := 7) sc_agrees_with_entry.nd rfl (Or.inl rfl)) (pss_one (ps_dput (hu_of hr) (pv 6) (pe_ix (ixt (K := K) rfl) (pe_ix (ixt (K := K) rfl) (pe_ix (ixt (K := K) rfl) (pe_ix (ixt (K := K) rfl) (pv 1) pe_int (fun _ _ => rfl)) pe_int (fun _ _ => rfl)) (pv 7) (fun _ _ => rfl)) pe_int (fun _ _ => rfl)) (pe_ix (ixt (K := K) rfl) (pv 2) (pv 7) (fun _ _ => rfl)) rfl))) (pss_one (ps_ret (pe_call G_agrees (hr.mono (by first | decide | omega)) rfl T.g_agrees T.F_agrees.kp T.b_agrees .nil pass0 (pa_cons (pv 0) (pa_cons (pe_call G_replace_variables (hr.mono (by first | decide | omega)) rfl T.g_replace_variables T.F_replace_variables.kp T.b_replace_variables .nil pass0 (pa_cons (pe_ix (ixt (K := K) rfl) (pv 1) pe_int (fun _ _ => rfl)) (pa_cons (pv 6) pa_nil))) (pa_cons (pe_ix (ixt (K := K) rfl) (pv 3) pe_int (fun _ _ => rfl)) (pa_cons (pv 4) (pa_cons (pe_op op_sub (pv 5) pe_int) pa_nil)))))))))))), ?_⟩
    obtain ⟨b, y, p, q, vs0, f, rfl, hb, hy, hp, hq, hvs⟩ := inv_row hr1
    have no : ∀ {z : Bool}, agrE (Ent.rowss es) st (d - 1).toNat as r v = z → Q (.bl z) H := fun {z} e => by
      have := k H Sm.refl
      rw [e] at this
      exact this
    have hya : (r.arg = none ∧ y = .non) ∨ ∃ a0 yr, r.arg = some a0 ∧ y = .ref yr ∧ Rp K H (.ref yr) a0.d := by
      unfold Row.argD at hy
      cases e : r.arg with
      | none =>
        rw [e] at hy
        exact .inl ⟨rfl, hy.non_inv⟩
      | some a0 =>
        rw [e] at hy
        obtain ⟨yr, rfl⟩ := Sh.ref a0 hy
        exact .inr ⟨a0, yr, rfl, rfl, hy⟩
    cases v with
    | int i => cases hvc
    | tup l => cases hvc
    | ref i => cases hvc
    | oth t l => cases hvc
    | con0 i x =>
      obtain ⟨a, rfl, hs⟩ := inv_con0 hv
      by_cases hx : x = r.name
      · refine ⟨_, rfl, a, _, _, _, rfl, rfl, hs, at2, _, rfl, b, _, _, _, rfl, rfl, hb, at1, rfl, _, rfl, iteN (by rw [dec_s, hx]; simp) ?_⟩
        rcases hya with ⟨e, rfl⟩ | ⟨a0, yr, e, rfl, hyr⟩
        · refine ⟨_, rfl, a, _, _, _, rfl, rfl, hs, at3, rfl, _, rfl, b, _, _, _, rfl, rfl, hb, at3, rfl, rfl, _, rfl, iteNS (A := _) rfl ?_⟩
          refine ⟨_, rfl, a, _, _, _, rfl, rfl, hs, at3, rfl, _, rfl, iteY rfl ?_⟩
          exact no (by simp [agrE, hx, e])
        · refine ⟨_, rfl, a, _, _, _, rfl, rfl, hs, at3, rfl, _, rfl, b, _, _, _, rfl, rfl, hb, at3, rfl, rfl, _, rfl, iteY rfl ?_⟩
          exact no (by simp [agrE, hx, e])
      · refine ⟨_, rfl, a, _, _, _, rfl, rfl, hs, at2, _, rfl, b, _, _, _, rfl, rfl, hb, at1, rfl, _, rfl, iteY (by rw [dec_s]; simp [hx]) ?_⟩
        refine iteT (B := _) ?_
        exact no (by simp [agrE, hx])
    | con1 i x u =>
      obtain ⟨a, vr, rfl, hs, hu⟩ := inv_con1 hv
      by_cases hx : x = r.name
      · refine ⟨_, rfl, a, _, _, _, rfl, rfl, hs, at2, _, rfl, b, _, _, _, rfl, rfl, hb, at1, rfl, _, rfl, iteN (by rw [dec_s, hx]; simp) ?_⟩
        rcases hya with ⟨e, rfl⟩ | ⟨a0, yr, e, rfl, hyr⟩
        · refine ⟨_, rfl, a, _, _, _, rfl, rfl, hs, at3, rfl, _, rfl, b, _, _, _, rfl, rfl, hb, at3, rfl, rfl, _, rfl, iteY rfl ?_⟩
          exact no (by simp [agrE, hx, e])
        · refine ⟨_, rfl, a, _, _, _, rfl, rfl, hs, at3, rfl, _, rfl, b, _, _, _, rfl, rfl, hb, at3, rfl, rfl, _, rfl, iteN rfl ?_⟩
          refine ⟨_, rfl, a, _, _, _, rfl, rfl, hs, at3, rfl, _, rfl, iteN rfl ?_⟩
          obtain ⟨hf0, hd8⟩ := hro.arg a0 e
          refine fun m hm => ?_
          have hgl : gs.length = as.length := by rw [hgs.length, ds_len]
          have hb100 : as.length ≤ 100 := Nat.le_trans hm' (by have := ha.env.arb r.st; rw [hro.m]; exact this)
          refine ⟨_, rfl, g, _, rfl, .inr ((KT.upd_new hm).sqt hg), _, rfl, by omega, by omega, for_range (lo := 0) (n := ((gs.length : Nat) : Int).toNat) (fun j σ' H' => ∃ (v7 : Option V) (kvs : List (Key × V)), σ' = [some ex, some (.ref b), some (.ref g), some (.ref a), some sx, some (.int d), some (.ref m), v7] ∧ Sm H H' ∧ H' m = some (.dK kvs) ∧ kvs.length ≤ j ∧
            ∀ i : Int, match pick (as.take j) i with
              | some s => ∃ x, valV kvs (Sum.inl i) = some x ∧ Rp K H' x s.d
              | none => valV kvs (Sum.inl i) = none) ?_ ?_ ?_⟩
          · exact ⟨none, [], rfl, Sm.new hm, upd_same, Nat.le_refl _, fun i => by rw [List.take_zero, pick_nil]; rfl⟩
          · rintro j σ' H' hj ⟨v7, kvs, rfl, s1, hmk, hkl, hq'⟩
            have hj' : j < as.length := by omega
            have ea : as[j]? = some as[j] := List.getElem?_eq_getElem hj'
            have ed : (Sh.ds as)[j]? = some (as[j]).d := by rw [ds_map, List.getElem?_map, ea]; rfl
            obtain ⟨z, ez, hz⟩ := hgs.get ed
            have ev : (Sh.ds (vars r.m))[j]? = some (Sh.v (j : Int)).d := by rw [ds_map, List.getElem?_map, vars_get (show j < r.m by omega)]; rfl
            obtain ⟨zv, ezv, hzv⟩ := hvs.get ev
            obtain ⟨t, rfl, ht⟩ := inv_v hzv
            have kt := KT.same s1
            have at_j : ∀ {l : List V} {x : V}, l[j]? = some x → atI l (0 + (j : Int)) = some x := fun {l x} e => by
              rw [Int.zero_add]
              exact atI_nat e
            refine ⟨_, rfl, _, rfl, g, _, _, _, rfl, rfl, kt.sqt hg, at_j ez, _, rfl, _, rfl, b, _, _, _, rfl, rfl, kt.sqt hb, atI_nat (j := 4) rfl, p, _, _, _, rfl, rfl, kt.sqt hp, at2, _, rfl, q, _, _, _, rfl, rfl, kt.sqt hq, at_j ezv, t, _, _, _, rfl, rfl, kt.sqt ht, at1, m, _, rfl, DPut.k (k := Sum.inl (j : Int)) hmk (small_lt (by omega)), ?_⟩
            have hm0 : H m = none := hm
            have ktu : KT H' (upd H' m (.dK (putK kvs (Sum.inl (j : Int)) z))) := KT.upd_lst (NT.dk hmk)
            refine ⟨_, _, rfl, s1.upd hm0, upd_same, ?_, fun i => ?_⟩
            · have := length_putK kvs (Sum.inl (j : Int) : Key) z
              omega
            · rw [pick_take ea, valV_put]
              have hi := hq' i
              by_cases e : i = (j : Int)
              · rw [if_pos e, if_pos (by rw [e])]
                exact ⟨z, rfl, (hz.on kt).on ktu⟩
              · rw [if_neg e, if_neg (fun z2 => e (Sum.inl.inj z2))]
                split at hi
                · rename_i s0 es0
                  obtain ⟨x0, e0, r0⟩ := hi
                  exact ⟨x0, e0, r0.on ktu⟩
                · rename_i es0
                  exact hi
          · rintro σ' H' ⟨v7, kvs, rfl, s1, hmk, hkl, hq'⟩
            rw [List.take_of_length_le (by omega)] at hq'
            have kt := KT.same s1
            refine ⟨_, rfl, _, rfl, b, _, _, _, rfl, rfl, kt.sqt hb, at3, _, rfl, .ref yr, a0, m, as, rfl, hyr.on kt, hd8, by omega, ⟨kvs, hmk, hq'⟩, fun r' H2 s2 hr2 => ?_⟩
            have s12 : Sm H H2 := s1.trans s2
            refine ⟨_, rfl, a, _, _, _, rfl, rfl, (KT.same s12).sqt hs, at3, _, rfl, _, rfl, _, _, rfl, rfl, ar, ex, r', .ref vr, sx, d - 1, es, st, repl as a0, u, rfl, by omega, ha.on s12, hr2, repl_fit hfa a0 hf0, hu.on (KT.same s12), by simpa [Vl.oka] using hvo, fun H3 s3 => ?_⟩
            have := k H3 (s12.trans s3)
            have e3 : agrE (Ent.rowss es) st (d - 1).toNat as r (Vl.con1 i x u) = agr (Ent.rowss es) st (d - 1).toNat (repl as a0) u := by simp [agrE, hx, e]
            rw [e3] at this
            exact this
      · refine ⟨_, rfl, a, _, _, _, rfl, rfl, hs, at2, _, rfl, b, _, _, _, rfl, rfl, hb, at1, rfl, _, rfl, iteY (by rw [dec_s]; simp [hx]) ?_⟩
        refine iteT (B := _) ?_
        exact no (by simp [agrE, hx])
def spAwc (K : PySem.W.Frag) (n : Nat) : Sp := fun vs H Q _ => ∃ (ar : Int → Nat) (ex x vx sx : V) (d : Int) (es : List Ent) (st : List Vl) (c : Int) (as : List Sh) (v : Vl), vs = [ex, x, vx, sx, .int d] ∧ 0 < d ∧ d ≤ (n : Int) + 1 ∧ Arg K ar H ex sx es st ∧
  Rp K H x (Sh.c c as).d ∧ (Sh.c c as).fit ar ∧ Rp K H vx v.d ∧ v.oka ∧ ¬ (c = 0 ∧ as = []) ∧ ¬ (c = 1 ∧ as = []) ∧ ¬ (c = 2 ∧ as = []) ∧ c ≠ 3 ∧ ∀ H', Sm H H' → Q (.bl (agr (Ent.rowss es) st d.toNat (Sh.c c as) v)) H'
end
end K88

set_option Elab.async false
set_option maxRecDepth 100000
set_option linter.all false
set_option maxHeartbeats 40000000
namespace K88
open PySem L2 GD AG
section
variable {P : Program} {w : World} {K : PySem.W.Frag} {mg : Str → Option Value} {base : Heap} {A : Adr}
def Vl.idx : Vl → Int
  | .con0 i _ => i
  | .con1 i _ _ => i
  | _ => 0
def agrC (rows : List Row) (st : List Vl) (n : Nat) (as : List Sh) (rs : List Row) (v : Vl) : Bool :=
  if rs = [] then true else if Vl.isCon v = false then false else match rs.find? fun r => decide (r.idx = Vl.idx v) with
    | none => true
    | some r => agrE rows st n as r v
theorem agr_c {rows : List Row} {st : List Vl} {n : Nat} {c : Int} {as : List Sh} {v : Vl} (h0 : ¬ (c = 0 ∧ as = [])) (h1 : ¬ (c = 1 ∧ as = [])) (h2 : ¬ (c = 2 ∧ as = [])) (h3 : c ≠ 3) :
    agr rows st (n + 1) (Sh.c c as) v = agrC rows st n as (rowsOf rows c) v := by
  unfold agr agrC
  simp only [h0, h1, h2, h3, if_false]
  cases rowsOf rows c with
  | nil => simp
  | cons r rs =>
    cases v with
    | con0 i x =>
      rw [if_neg (by simp), if_neg (by simp [Vl.isCon])]
      show (match (r :: rs).find? (fun r => decide (r.idx = i)) with | none => true | some r => decide (x = r.name) && r.arg.isNone) = (match (r :: rs).find? (fun r => decide (r.idx = i)) with | none => true | some r => agrE rows st n as r (.con0 i x))
      cases (r :: rs).find? (fun r => decide (r.idx = i)) <;> rfl
    | con1 i x u =>
      rw [if_neg (by simp), if_neg (by simp [Vl.isCon])]
      show (match (r :: rs).find? (fun r => decide (r.idx = i)) with | none => true | some r => decide (x = r.name) && (match r.arg with | none => false | some a => agr rows st n (repl as a) u)) = (match (r :: rs).find? (fun r => decide (r.idx = i)) with | none => true | some r => agrE rows st n as r (.con1 i x u))
      cases (r :: rs).find? (fun r => decide (r.idx = i)) <;> rfl
    | _ => simp [Vl.isCon]
theorem inv_con {H : Hp} {x : V} (v : Vl) (hc : Vl.isCon v = true) (h : Rp K H x v.d) : ∃ a ws, x = .ref a ∧ SqT K H a (.str "con" :: .int (Vl.idx v) :: ws) := by
  cases v with
  | con0 i n => obtain ⟨a, rfl, hs⟩ := inv_con0 h; exact ⟨a, _, rfl, hs⟩
  | con1 i n u => obtain ⟨a, y, rfl, hs, _⟩ := inv_con1 h; exact ⟨a, _, rfl, hs⟩
  | _ => cases hc
theorem find_at {rs : List Row} {j : Nat} {r : Row} {i : Int} (e : rs[j]? = some r) (hb : ∀ x ∈ rs.take j, x.idx ≠ i) (h : r.idx = i) : rs.find? (fun r => decide (r.idx = i)) = some r := by
  induction rs generalizing j with
  | nil => simp at e
  | cons x rs ih =>
    cases j with
    | zero =>
      simp at e
      subst e
      simp [List.find?, h]
    | succ j =>
      have hx : x.idx ≠ i := hb x (by simp)
      simp only [List.find?, decide_eq_false hx]
      exact ih (by simpa using e) (fun y hy => hb y (by simp [hy]))
theorem find_no {rs : List Row} {i : Int} (hb : ∀ x ∈ rs, x.idx ≠ i) : rs.find? (fun r => decide (r.idx = i)) = none := by
  rw [List.find?_eq_none]
  intro x hx
  simpa using hb x hx
theorem ok_awc (T : Txt K mg A) (n : Nat) (ih : FnOk P w K mg base CX0 (3 * n + 12) A.f_agrees A.d_agrees ["entries", "shape", "value", "store", "depth"] (spAgr K n)) : FnOk P w K mg base CX0 (3 * n + 14) A.f_agrees_with_constructor A.d_agrees_with_constructor ["entries", "shape", "value", "store", "depth"] (spAwc K n) := by
  have G_constructors_of : FnOk P w K mg base CX0 6 A.f_constructors_of A.d_constructors_of _ _ := ok_cof T
  have G_agrees_with_entry : FnOk P w K mg base CX0 (3 * n + 13) A.f_agrees_with_entry A.d_agrees_with_entry _ _ := ok_ent T n ih
  refine T.F_agrees_with_constructor.ok (k := 3 * n + 13) sc_agrees_with_constructor (fun vs H Q E h => ?_) (fun cdv Ar outer s H vs Q E hr h => ?_)
  · obtain ⟨ar, ex, x, vx, sx, d, es, st, c, as, v, rfl, _⟩ := h
    rfl
  · obtain ⟨ar, ex, x, vx, sx, d, es, st, c, as, v, rfl, hd0, hd1, ha, hx, hfit, hv, hvo, n0, n1, n2, n3, k⟩ := h
    refine ⟨_, (pss_cons (ps_set (i := 5) sc_agrees_with_constructor.nd rfl (Or.inl rfl) (pe_call G_constructors_of (hr.mono (by first | decide | omega)) rfl T.g_constructors_of T.F_constructors_of.kp T.b_constructors_of .nil pass0 (pa_cons (pv 0) (pa_cons (pe_ix (ixt (K := K) rfl) (pv 1) pe_int (fun _ _ => rfl)) pa_nil)))) (pss_cons (ps_if (pt_cmpR op_eq (pe_callB call_len_seq (by rfl) T.n_len PySem.boot_len (pa_cons (pv 5) pa_nil)) pe_int (nomark _)) (pss_one (ps_ret pe_bl)) pss_nil) (pss_cons (ps_if (pt_cmpR op_ne (pe_ix (ixt (K := K) rfl) (pv 2) pe_int (fun _ _ => rfl)) pe_str (nomark _)) (pss_one (ps_ret pe_bl)) pss_nil) (pss_cons (ps_for PassesOwn.never rfl (pi_list (pv 5)) (pg_name (i := 6) sc_agrees_with_constructor.nd rfl (Or.inl rfl)) (pss_one (ps_if (pt_cmpR op_eq (pe_ix (ixt (K := K) rfl) (pv 6) pe_int (fun _ _ => rfl)) (pe_ix (ixt (K := K) rfl) (pv 2) pe_int (fun _ _ => rfl)) (nomark _)) (pss_one (ps_ret (pe_call G_agrees_with_entry (hr.mono (by first | decide | omega)) rfl T.g_agrees_with_entry T.F_agrees_with_entry.kp T.b_agrees_with_entry .nil pass0 (pa_cons (pv 0) (pa_cons (pv 6) (pa_cons (pe_ix (ixt (K := K) rfl) (pv 1) pe_int (fun _ _ => rfl)) (pa_cons (pv 2) (pa_cons (pv 3) (pa_cons (pv 4) pa_nil))))))))) pss_nil))) (pss_one (ps_ret pe_bl)))))), ?_⟩
    obtain ⟨a, g, gs, rfl, hs, hg, hgs⟩ := inv_c hx
    have hfit' : as.length = ar c ∧ Sh.fits ar as := by simpa [Sh.fit] using hfit
    have yes : ∀ {z : Bool} {H' : Hp}, Sm H H' → agrC (Ent.rowss es) st (d - 1).toNat as (rowsOf (Ent.rowss es) c) v = z → Q (.bl z) H' := fun {z H'} s e => by
      have := k H' s
      rw [show d.toNat = (d - 1).toNat + 1 by omega, agr_c n0 n1 n2 n3, e] at this
      exact this
    refine ⟨_, rfl, _, rfl, a, _, _, _, rfl, rfl, hs, at1, ex, c, es, rfl, ha.ents, ha.env.oks, ha.env.deps, ha.env.few, fun D ys H1 s1 hD hys hrys => ?_⟩
    have hyl : ys.length = (rowsOf (Ent.rowss es) c).length := by rw [hrys.length, rd_len]
    have hrok : ∀ r ∈ rowsOf (Ent.rowss es) c, RowOk ar r ∧ r.st = c := fun r hr => by
      have h := List.mem_filter.mp hr
      exact ⟨ha.env.rok r h.1, by simpa using h.2⟩
    have hv1 := hv.on (KT.same s1)
    have ha1 := ha.on s1
    have hx1 := hx.on (KT.same s1)
    have hs1 := (KT.same s1).sqt hs
    generalize hrs : rowsOf (Ent.rowss es) c = rs at yes hrys hyl hrok
    refine ⟨_, rfl, D, _, rfl, .inl (SqL.of hys), rfl, _, rfl, ite2 (fun c1 => ?_) (fun c1 => ?_)⟩
    · rw [dec_i, decide_eq_true_iff] at c1
      refine yes s1 ?_
      have : rs = [] := List.length_eq_zero_iff.mp (by omega)
      simp [agrC, this]
    · rw [dec_i, decide_eq_true_iff] at c1
      have hne : rs ≠ [] := fun z => c1 (by rw [hyl, z]; rfl)
      cases hc : Vl.isCon v with
      | false =>
        obtain ⟨b, ws, rfl, hb⟩ := inv_tag v hv1
        have ht : v.tag ≠ "con" := by
          cases v with
          | con0 i x => cases hc
          | con1 i x u => cases hc
          | oth t l => simp only [Vl.oka] at hvo; exact hvo.2.2.1
          | int i => simp only [Vl.tag]; decide +kernel
          | tup l => simp only [Vl.tag]; decide +kernel
          | ref i => simp only [Vl.tag]; decide +kernel
        refine ⟨_, rfl, b, _, _, _, rfl, rfl, hb, at0, rfl, _, rfl, iteY (by rw [str_ne ht]; rfl) ?_⟩
        exact yes s1 (by simp [agrC, hne, hc])
      | true =>
        obtain ⟨b, ws2, rfl, hb⟩ := inv_con v hc hv1
        refine ⟨_, rfl, b, _, _, _, rfl, rfl, hb, at0, rfl, _, rfl, iteN (by simp) ?_⟩
        refine ⟨_, rfl, D, rfl, ⟨_, SqL.of hys⟩, for_list (xs := ys) (fun j σ' H' => ∃ v6 : Option V, σ' = [some ex, some (.ref a), some (.ref b), some sx, some (.int d), some (.ref D), v6] ∧ H' = H1 ∧ ∀ r ∈ rs.take j, r.idx ≠ Vl.idx v) ?_ ?_ ?_ ?_⟩
        · exact ⟨none, rfl, rfl, by simp⟩
        · rintro j σ' H' _ ⟨v6, rfl, rfl, _⟩
          exact SqL.of hys
        · rintro j y σ' H' hy ⟨v6, rfl, rfl, hbef⟩
          have hj : j < rs.length := by
            have := (List.getElem?_eq_some_iff.mp hy).1
            omega
          have er : rs[j]? = some rs[j] := List.getElem?_eq_getElem hj
          have ed : (rd rs)[j]? = some (rs[j]).d := by unfold rd; rw [List.getElem?_map, er]; rfl
          obtain ⟨y', ey, ry⟩ := hrys.get ed
          rw [hy] at ey
          cases ey
          obtain ⟨hro, hst⟩ := hrok _ (List.getElem_mem hj)
          have etk : rs.take (j + 1) = rs.take j ++ [rs[j]] := by rw [List.take_add_one, er]; rfl
          rw [etk]
          generalize rs[j] = r at er ry hro hst
          have ry0 := ry
          obtain ⟨e, y1, p, q, gs2, f, rfl, he, _⟩ := inv_row ry
          refine ⟨_, rfl, e, _, _, _, rfl, rfl, he, atI_nat (j := 5) rfl, _, rfl, b, _, _, _, rfl, rfl, hb, at1, rfl, _, rfl, ?_⟩
          rw [dec_i]
          by_cases hx : r.idx = Vl.idx v
          · rw [decide_eq_true hx]
            refine iteT (B := _) ?_
            refine ⟨_, rfl, _, rfl, _, rfl, a, _, _, _, rfl, rfl, hs1, at2, _, rfl, _, rfl, _, rfl, ar, ex, .ref e, .ref b, sx, g, gs, d, es, st, r, as, v, rfl, hd0, hd1, ha1, ry0, hro, by rw [hro.m, hst]; omega, (KT.same s1).sqt hg, hgs.on (KT.same s1), hfit'.2, hv1, hvo, hc, fun H2 s2 => ?_⟩
            refine yes (s1.trans s2) ?_
            simp [agrC, hne, hc, find_at er hbef hx]
          · rw [decide_eq_false hx]
            refine iteF (A := _) ⟨_, rfl, rfl, fun r' hr' => ?_⟩
            rcases List.mem_append.mp hr' with h | h
            · exact hbef r' h
            · rw [List.mem_singleton.mp h]; exact hx
        · rintro σ' H' ⟨v6, rfl, rfl, hbef⟩
          rw [List.take_of_length_le (by omega)] at hbef
          exact yes s1 (by simp [agrC, hne, hc, find_no hbef])
end
end K88

set_option Elab.async false
set_option maxRecDepth 100000
set_option linter.all false
set_option maxHeartbeats 40000000
namespace K88
open PySem L2 GD AG
section
variable {P : Program} {w : World} {K : PySem.W.Frag} {mg : Str → Option Value} {base : Heap} {A : Adr}
theorem ok_agr (T : Txt K mg A) : ∀ n : Nat, FnOk P w K mg base CX0 (3 * n + 12) A.f_agrees A.d_agrees ["entries", "shape", "value", "store", "depth"] (spAgr K n) := by
  intro n
  induction n with
  | zero =>
    have G_agrees : FnOk P w K mg base CX0 (1 : Nat) A.f_agrees A.d_agrees ["entries", "shape", "value", "store", "depth"] (fun _ _ _ _ => False) := T.F_agrees.ok (k := 0) sc_agrees (fun _ _ _ _ h => h.elim) (fun _ _ _ _ _ _ _ _ _ h => h.elim)
    have G_agrees_with_constructor : FnOk P w K mg base CX0 (1 : Nat) A.f_agrees_with_constructor A.d_agrees_with_constructor ["entries", "shape", "value", "store", "depth"] (fun _ _ _ _ => False) := T.F_agrees_with_constructor.ok (k := 0) sc_agrees_with_constructor (fun _ _ _ _ h => h.elim) (fun _ _ _ _ _ _ _ _ _ h => h.elim)
    refine T.F_agrees.ok (k := 11) sc_agrees (fun vs H Q E h => ?_) (fun cdv Ar outer s H vs Q E hr h => ?_)
    · obtain ⟨ar, ex, x, vx, sx, d, es, st, sh, v, rfl, _⟩ := h
      rfl
    · obtain ⟨ar, ex, x, vx, sx, d, es, st, sh, v, rfl, hd, ha, hx, hfit, hv, hvo, k⟩ := h
      refine ⟨_, (pss_cons (ps_if (pt_cmpR op_le (pv 4) pe_int (nomark _)) (pss_one (ps_ret pe_bl)) pss_nil) (pss_cons (ps_if (pt_cmpR op_eq (pe_ix (ixt (K := K) rfl) (pv 1) pe_int (fun _ _ => rfl)) pe_str (nomark _)) (pss_one (ps_ret pe_bl)) pss_nil) (pss_cons (ps_if (pt_cmpR op_eq (pe_ix (ixt (K := K) rfl) (pv 1) pe_int (fun _ _ => rfl)) pe_str (nomark _)) (pss_one (ps_ret (pe_or (pe_cmpR op_eq (pe_ix (ixt (K := K) rfl) (pv 2) pe_int (fun _ _ => rfl)) pe_str (nomark _)) (pe_one (pe_cmpR op_eq (pe_ix (ixt (K := K) rfl) (pv 2) pe_int (fun _ _ => rfl)) pe_str (nomark _)))))) pss_nil) (pss_cons (ps_if (pt_cmpR op_eq (pe_ix (ixt (K := K) rfl) (pv 1) pe_int (fun _ _ => rfl)) pe_str (nomark _)) (pss_cons (ps_if (PW.pt (pw_or (pt_cmpR op_ne (pe_ix (ixt (K := K) rfl) (pv 2) pe_int (fun _ _ => rfl)) pe_str (nomark _)) (pw_or1 (pt_cmpR op_ne (pe_callB call_len_seq (by rfl) T.n_len PySem.boot_len (pa_cons (pe_ix (ixt (K := K) rfl) (pv 2) pe_int (fun _ _ => rfl)) pa_nil)) (pe_callB call_len_seq (by rfl) T.n_len PySem.boot_len (pa_cons (pe_ix (ixt (K := K) rfl) (pv 1) pe_int (fun _ _ => rfl)) pa_nil)) (nomark _))))) (pss_one (ps_ret pe_bl)) pss_nil) (pss_cons (ps_for PassesOwn.never rfl (RZ.pi_zipA (by rfl) T.n_zip (pa_cons (pe_ix (ixt (K := K) rfl) (pv 1) pe_int (fun _ _ => rfl)) (pa_cons (pe_ix (ixt (K := K) rfl) (pv 2) pe_int (fun _ _ => rfl)) pa_nil))) (pg_tup rfl (pgs_cons (pg_name (i := 5) sc_agrees.nd rfl (Or.inl rfl)) (pgs_cons (pg_name (i := 6) sc_agrees.nd rfl (Or.inl rfl)) pgs_nil))) (pss_one (ps_if (pt_not (pt_val (pe_call G_agrees (hr.mono (by first | decide | omega)) rfl T.g_agrees T.F_agrees.kp T.b_agrees .nil pass0 (pa_cons (pv 0) (pa_cons (pv 5) (pa_cons (pv 6) (pa_cons (pv 3) (pa_cons (pe_op op_sub (pv 4) pe_int) pa_nil)))))) (by intro _; rfl))) (pss_one (ps_ret pe_bl)) pss_nil))) (pss_one (ps_ret pe_bl)))) pss_nil) (pss_cons (ps_if (pt_cmpR (op_eqS hr.units) (pv 1) (pe_glob (v := .ref A.c_INT) rfl T.g_INT rfl) (nomark _)) (pss_one (ps_ret (pe_cmpR op_eq (pe_ix (ixt (K := K) rfl) (pv 2) pe_int (fun _ _ => rfl)) pe_str (nomark _)))) pss_nil) (pss_cons (ps_if (pt_cmpR (op_eqS hr.units) (pv 1) (pe_glob (v := .ref A.c_UNIT) rfl T.g_UNIT rfl) (nomark _)) (pss_one (ps_ret (pe_cmpR (op_eqS hr.units) (pv 2) (pe_tup (pa_cons pe_str (pa_cons (pe_tup pa_nil) pa_nil))) (nomark _)))) pss_nil) (pss_cons (ps_if (pt_cmpR (op_eqS hr.units) (pv 1) (pe_glob (v := .ref A.c_EXN) rfl T.g_EXN rfl) (nomark _)) (pss_one (ps_ret (pe_cmpR op_eq (pe_ix (ixt (K := K) rfl) (pv 2) pe_int (fun _ _ => rfl)) pe_str (nomark _)))) pss_nil) (pss_cons (ps_if (pt_cmpR op_eq (pe_ix (ixt (K := K) rfl) (pv 1) pe_int (fun _ _ => rfl)) pe_int (nomark _)) (pss_cons (ps_if (PW.pt (pw_or (pt_cmpR op_ne (pe_ix (ixt (K := K) rfl) (pv 2) pe_int (fun _ _ => rfl)) pe_str (nomark _)) (pw_or1 (pt_not (pt_chain op_le op_lt pe_int (pe_ix (ixt (K := K) rfl) (pv 2) pe_int (fun _ _ => rfl)) (pe_callB call_len_seq (by rfl) T.n_len PySem.boot_len (pa_cons (pv 3) pa_nil))))))) (pss_one (ps_ret pe_bl)) pss_nil) (pss_one (ps_ret (pe_call G_agrees (hr.mono (by first | decide | omega)) rfl T.g_agrees T.F_agrees.kp T.b_agrees .nil pass0 (pa_cons (pv 0) (pa_cons (pe_ix (ixt (K := K) rfl) (pe_ix (ixt (K := K) rfl) (pv 1) pe_int (fun _ _ => rfl)) pe_int (fun _ _ => rfl)) (pa_cons (pe_ix (ixt (K := K) rfl) (pv 3) (pe_ix (ixt (K := K) rfl) (pv 2) pe_int (fun _ _ => rfl)) (fun _ _ => rfl)) (pa_cons (pv 3) (pa_cons (pe_op op_sub (pv 4) pe_int) pa_nil))))))))) pss_nil) (pss_one (ps_ret (pe_call G_agrees_with_constructor (hr.mono (by first | decide | omega)) rfl T.g_agrees_with_constructor T.F_agrees_with_constructor.kp T.b_agrees_with_constructor .nil pass0 (pa_cons (pv 0) (pa_cons (pv 1) (pa_cons (pv 2) (pa_cons (pv 3) (pa_cons (pv 4) pa_nil)))))))))))))))), ?_⟩
      have h0 : d ≤ 0 := by omega
      refine ⟨_, rfl, _, _, rfl, rfl, _, rfl, iteY (decide_eq_true h0) ?_⟩
      have := k H Sm.refl
      rw [show d.toNat = 0 by omega] at this
      exact this
  | succ n ih =>
    have G_agrees : FnOk P w K mg base CX0 (3 * n + 12) A.f_agrees A.d_agrees _ _ := ih
    have G_agrees_with_constructor : FnOk P w K mg base CX0 (3 * n + 14) A.f_agrees_with_constructor A.d_agrees_with_constructor _ _ := ok_awc T n ih
    refine T.F_agrees.ok (k := 3 * n + 14) sc_agrees (fun vs H Q E h => ?_) (fun cdv Ar outer s H vs Q E hr h => ?_)
    · obtain ⟨ar, ex, x, vx, sx, d, es, st, sh, v, rfl, _⟩ := h
      rfl
    · obtain ⟨ar, ex, x, vx, sx, d, es, st, sh, v, rfl, hd, ha, hx, hfit, hv, hvo, k⟩ := h
      refine ⟨_, (pss_cons (ps_if (pt_cmpR op_le (pv 4) pe_int (nomark _)) (pss_one (ps_ret pe_bl)) pss_nil) (pss_cons (ps_if (pt_cmpR op_eq (pe_ix (ixt (K := K) rfl) (pv 1) pe_int (fun _ _ => rfl)) pe_str (nomark _)) (pss_one (ps_ret pe_bl)) pss_nil) (pss_cons (ps_if (pt_cmpR op_eq (pe_ix (ixt (K := K) rfl) (pv 1) pe_int (fun _ _ => rfl)) pe_str (nomark _)) (pss_one (ps_ret (pe_or (pe_cmpR op_eq (pe_ix (ixt (K := K) rfl) (pv 2) pe_int (fun _ _ => rfl)) pe_str (nomark _)) (pe_one (pe_cmpR op_eq (pe_ix (ixt (K := K) rfl) (pv 2) pe_int (fun _ _ => rfl)) pe_str (nomark _)))))) pss_nil) (pss_cons (ps_if (pt_cmpR op_eq (pe_ix (ixt (K := K) rfl) (pv 1) pe_int (fun _ _ => rfl)) pe_str (nomark _)) (pss_cons (ps_if (PW.pt (pw_or (pt_cmpR op_ne (pe_ix (ixt (K := K) rfl) (pv 2) pe_int (fun _ _ => rfl)) pe_str (nomark _)) (pw_or1 (pt_cmpR op_ne (pe_callB call_len_seq (by rfl) T.n_len PySem.boot_len (pa_cons (pe_ix (ixt (K := K) rfl) (pv 2) pe_int (fun _ _ => rfl)) pa_nil)) (pe_callB call_len_seq (by rfl) T.n_len PySem.boot_len (pa_cons (pe_ix (ixt (K := K) rfl) (pv 1) pe_int (fun _ _ => rfl)) pa_nil)) (nomark _))))) (pss_one (ps_ret pe_bl)) pss_nil) (pss_cons (ps_for PassesOwn.never rfl (RZ.pi_zipA (by rfl) T.n_zip (pa_cons (pe_ix (ixt (K := K) rfl) (pv 1) pe_int (fun _ _ => rfl)) (pa_cons (pe_ix (ixt (K := K) rfl) (pv 2) pe_int (fun _ _ => rfl)) pa_nil))) (pg_tup rfl (pgs_cons (pg_name (i := 5) sc_agrees.nd rfl (Or.inl rfl)) (pgs_cons (pg_name (i := 6) sc_agrees.nd rfl (Or.inl rfl)) pgs_nil))) (pss_one (ps_if (pt_not (pt_val (pe_call G_agrees (hr.mono (by first | decide | omega)) rfl T.g_agrees T.F_agrees.kp T.b_agrees .nil pass0 (pa_cons (pv 0) (pa_cons (pv 5) (pa_cons (pv 6) (pa_cons (pv 3) (pa_cons (pe_op op_sub (pv 4) pe_int) pa_nil)))))) (by intro _; rfl))) (pss_one (ps_ret pe_bl)) pss_nil))) (pss_one (ps_ret pe_bl)))) pss_nil) (pss_cons (ps_if (pt_cmpR (op_eqS hr.units) (pv 1) (pe_glob (v := .ref A.c_INT) rfl T.g_INT rfl) (nomark _)) (pss_one (ps_ret (pe_cmpR op_eq (pe_ix (ixt (K := K) rfl) (pv 2) pe_int (fun _ _ => rfl)) pe_str (nomark _)))) pss_nil) (pss_cons (ps_if (pt_cmpR (op_eqS hr.units) (pv 1) (pe_glob (v := .ref A.c_UNIT) rfl T.g_UNIT rfl) (nomark _)) (pss_one (ps_ret (pe_cmpR (op_eqS hr.units) (pv 2) (pe_tup (pa_cons pe_str (pa_cons (pe_tup pa_nil) pa_nil))) (nomark _)))) pss_nil) (pss_cons (ps_if (pt_cmpR (op_eqS hr.units) (pv 1) (pe_glob (v := .ref A.c_EXN) rfl T.g_EXN rfl) (nomark _)) (pss_one (ps_ret (pe_cmpR op_eq (pe_ix (ixt (K := K) rfl) (pv 2) pe_int (fun _ _ => rfl)) pe_str (nomark _)))) pss_nil) (pss_cons (ps_if (pt_cmpR op_eq (pe_ix (ixt (K := K) rfl) (pv 1) pe_int (fun _ _ => rfl)) pe_int (nomark _)) (pss_cons (ps_if (PW.pt (pw_or (pt_cmpR op_ne (pe_ix (ixt (K := K) rfl) (pv 2) pe_int (fun _ _ => rfl)) pe_str (nomark _)) (pw_or1 (pt_not (pt_chain op_le op_lt pe_int (pe_ix (ixt (K := K) rfl) (pv 2) pe_int (fun _ _ => rfl)) (pe_callB call_len_seq (by rfl) T.n_len PySem.boot_len (pa_cons (pv 3) pa_nil))))))) (pss_one (ps_ret pe_bl)) pss_nil) (pss_one (ps_ret (pe_call G_agrees (hr.mono (by first | decide | omega)) rfl T.g_agrees T.F_agrees.kp T.b_agrees .nil pass0 (pa_cons (pv 0) (pa_cons (pe_ix (ixt (K := K) rfl) (pe_ix (ixt (K := K) rfl) (pv 1) pe_int (fun _ _ => rfl)) pe_int (fun _ _ => rfl)) (pa_cons (pe_ix (ixt (K := K) rfl) (pv 3) (pe_ix (ixt (K := K) rfl) (pv 2) pe_int (fun _ _ => rfl)) (fun _ _ => rfl)) (pa_cons (pv 3) (pa_cons (pe_op op_sub (pv 4) pe_int) pa_nil))))))))) pss_nil) (pss_one (ps_ret (pe_call G_agrees_with_constructor (hr.mono (by first | decide | omega)) rfl T.g_agrees_with_constructor T.F_agrees_with_constructor.kp T.b_agrees_with_constructor .nil pass0 (pa_cons (pv 0) (pa_cons (pv 1) (pa_cons (pv 2) (pa_cons (pv 3) (pa_cons (pv 4) pa_nil)))))))))))))))), ?_⟩
      refine ⟨_, rfl, _, _, rfl, rfl, _, rfl, ite2 (fun c1 => ?_) (fun c1 => ?_)⟩
      · have h0 : d ≤ 0 := of_decide_eq_true c1
        have := k H Sm.refl
        rw [show d.toNat = 0 by omega] at this
        exact this
      · have h0 : ¬ d ≤ 0 := fun z => c1 (decide_eq_true z)
        have hdn : d.toNat = (d - 1).toNat + 1 := by omega
        rw [hdn] at k
        have yes : ∀ {z : Bool} {H' : Hp}, Sm H H' → agr (Ent.rowss es) st ((d - 1).toNat + 1) sh v = z → Q (.bl z) H' := fun {z H'} s e => by
          have := k H' s
          rw [e] at this
          exact this
        obtain ⟨b, ws, rfl, hb⟩ := inv_tag v hv
        cases sh with
        | v i =>
          obtain ⟨a, rfl, hs⟩ := inv_v hx
          refine ⟨_, rfl, a, _, _, _, rfl, rfl, hs, at0, rfl, _, rfl, iteY (by decide +kernel) ?_⟩
          exact yes Sm.refl rfl
        | f p q =>
          obtain ⟨a, y, z, rfl, hs, _⟩ := inv_f hx
          refine ⟨_, rfl, a, _, _, _, rfl, rfl, hs, at0, rfl, _, rfl, iteN (by decide +kernel) ?_⟩
          refine ⟨_, rfl, a, _, _, _, rfl, rfl, hs, at0, rfl, _, rfl, iteY (by decide +kernel) ?_⟩
          refine ⟨_, rfl, b, _, _, _, rfl, rfl, hb, at0, rfl, _, rfl, ?_⟩
          rw [dec_s]
          by_cases c2 : v.tag = "fun"
          · rw [decide_eq_true c2]
            exact iteT (B := _) (yes Sm.refl (by simp [agr, c2]))
          · rw [decide_eq_false c2]
            refine iteF (A := _) ⟨_, rfl, b, _, _, _, rfl, rfl, hb, at0, rfl, ?_⟩
            exact yes Sm.refl (by rw [dec_s]; simp [agr, c2])
        | t ps =>
          obtain ⟨a, g, gs, rfl, hs, hg, hgs⟩ := inv_t hx
          refine ⟨_, rfl, a, _, _, _, rfl, rfl, hs, at0, rfl, _, rfl, iteN (by decide +kernel) ?_⟩
          refine ⟨_, rfl, a, _, _, _, rfl, rfl, hs, at0, rfl, _, rfl, iteN (by decide +kernel) ?_⟩
          refine ⟨_, rfl, a, _, _, _, rfl, rfl, hs, at0, rfl, _, rfl, iteY (by decide +kernel) ?_⟩
          by_cases ht : v.tag = "tuple"
          · have hvt : ∃ l, v = .tup l := by
              cases v with
              | tup l => exact ⟨l, rfl⟩
              | oth t l => simp only [Vl.oka] at hvo; exact absurd ht hvo.2.1
              | int i => exact absurd ht (by simp only [Vl.tag]; decide +kernel)
              | con0 i x => exact absurd ht (by simp only [Vl.tag]; decide +kernel)
              | con1 i x u => exact absurd ht (by simp only [Vl.tag]; decide +kernel)
              | ref i => exact absurd ht (by simp only [Vl.tag]; decide +kernel)
            obtain ⟨l, rfl⟩ := hvt
            obtain ⟨b', h2, hs2, eb, hb', hh, hhs⟩ := inv_tup hv
            cases eb
            have hl1 : gs.length = ps.length := by rw [hgs.length, ds_len]
            have hl2 : hs2.length = l.length := by rw [hhs.length, vds_len]
            refine ⟨_, rfl, b, _, _, _, rfl, rfl, hb', at0, rfl, _, rfl, iteN (by decide +kernel) ?_⟩
            refine ⟨_, rfl, b, _, _, _, rfl, rfl, hb', at1, h2, _, rfl, .inr hh, _, rfl, a, _, _, _, rfl, rfl, hs, at1, g, _, rfl, .inr hg, rfl, _, rfl, ?_⟩
            rw [dec_i]
            by_cases c3 : ((hs2.length : Nat) : Int) = ((gs.length : Nat) : Int)
            · rw [decide_eq_true c3]
              refine iteF (A := _) ?_
              have hlen : gs.length = hs2.length := by omega
              have hfit' : Sh.fits ar ps := by simpa [Sh.fit] using hfit
              have hvo' : Vl.okas l := by simpa [Vl.oka] using hvo
              refine ⟨_, rfl, a, _, _, _, rfl, rfl, hs, at1, _, rfl, b, _, _, _, rfl, rfl, hb', at1, g, h2, gs, hs2, rfl, .inr ⟨hg, hh, RZ.for_zipT hlen (fun j σ' H' => ∃ v5 v6 : Option V, σ' = [some ex, some (.ref a), some (.ref b), some sx, some (.int d), v5, v6] ∧ Sm H H' ∧
                ∀ i, i < j → ∀ x y, ps[i]? = some x → l[i]? = some y → agr (Ent.rowss es) st (d - 1).toNat x y = true) ?_ ?_ ?_ ?_⟩⟩
              · exact ⟨none, none, rfl, Sm.refl, fun i hi => absurd hi (Nat.not_lt_zero _)⟩
              · rintro j σ' H' ⟨v5, v6, rfl, s1, _⟩
                exact ⟨(KT.same s1).sqt hg, (KT.same s1).sqt hh⟩
              · rintro j y z T' σ' H' ey ez ⟨v5, v6, rfl, s1, hbef⟩ hT'
                have hj1 : j < ps.length := by have := (List.getElem?_eq_some_iff.mp ey).1; omega
                have hj2 : j < l.length := by have := (List.getElem?_eq_some_iff.mp ez).1; omega
                have ep : ps[j]? = some ps[j] := List.getElem?_eq_getElem hj1
                have el : l[j]? = some l[j] := List.getElem?_eq_getElem hj2
                obtain ⟨y', ey', ry⟩ := hgs.get (show (Sh.ds ps)[j]? = some (ps[j]).d by rw [ds_map, List.getElem?_map, ep]; rfl)
                obtain ⟨z', ez', rz⟩ := hhs.get (show (Vl.ds l)[j]? = some (l[j]).d by rw [vds_map, List.getElem?_map, el]; rfl)
                rw [ey] at ey'
                rw [ez] at ez'
                cases ey'
                cases ez'
                have s2 : Sm H (upd H' T' (.tup [y, z])) := s1.on hT'
                have kt := KT.same s2
                refine ⟨T', [y, z], rfl, .inl (Rd.of upd_same), rfl, y, [z], rfl, z, [], rfl, rfl, ?_⟩
                refine ⟨_, rfl, _, rfl, _, rfl, _, rfl, _, rfl, _, _, rfl, rfl, ar, ex, y, z, sx, d - 1, es, st, ps[j], l[j], rfl, by omega, ha.on s2, ry.on kt, fits_mem hfit' (List.getElem_mem hj1), rz.on kt, okas_mem hvo' (List.getElem_mem hj2), fun H3 s3 => ⟨_, rfl, ?_⟩⟩
                cases ea : agr (Ent.rowss es) st (d - 1).toNat ps[j] l[j] with
                | false =>
                  refine iteT (B := _) ?_
                  refine yes (s2.trans s3) ?_
                  simp only [agr]
                  exact zipAll_bad ep el ea
                | true =>
                  refine iteF (A := _) ⟨_, _, rfl, s2.trans s3, fun i hi x' y' e1 e2 => ?_⟩
                  rcases Nat.lt_succ_iff_lt_or_eq.mp hi with h | h
                  · exact hbef i h x' y' e1 e2
                  · subst h
                    rw [ep] at e1
                    rw [el] at e2
                    cases e1
                    cases e2
                    exact ea
              · rintro σ' H' ⟨v5, v6, rfl, s1, hbef⟩
                refine yes s1 ?_
                have : zipAll (agr (Ent.rowss es) st (d - 1).toNat) ps l = true := zipAll_ok (by omega) fun i x y e1 e2 => hbef i (by have := (List.getElem?_eq_some_iff.mp e1).1; omega) x y e1 e2
                simp only [agr]
                exact this
            · rw [decide_eq_false c3]
              refine iteT (B := _) ?_
              have : zipAll (agr (Ent.rowss es) st (d - 1).toNat) ps l = false := zipAll_len (by omega)
              exact yes Sm.refl (by simp only [agr]; exact this)
          · refine ⟨_, rfl, b, _, _, _, rfl, rfl, hb, at0, rfl, _, rfl, iteY (by rw [str_ne ht]; rfl) ?_⟩
            refine iteT (B := _) ?_
            refine yes Sm.refl ?_
            cases v <;> first | rfl | exact absurd rfl ht
        | c c as =>
          have hx0 := hx
          obtain ⟨a, g, gs, rfl, hs, hg, hgs⟩ := inv_c hx
          have hfit' : as.length = ar c ∧ Sh.fits ar as := by simpa [Sh.fit] using hfit
          refine ⟨_, rfl, a, _, _, _, rfl, rfl, hs, at0, rfl, _, rfl, iteN (by decide +kernel) ?_⟩
          refine ⟨_, rfl, a, _, _, _, rfl, rfl, hs, at0, rfl, _, rfl, iteN (by decide +kernel) ?_⟩
          refine ⟨_, rfl, a, _, _, _, rfl, rfl, hs, at0, rfl, _, rfl, iteN (by decide +kernel) ?_⟩
          -- int
          refine ⟨_, rfl, (Sh.c c as).d, .tuple [.str "c", .int 0, .tuple []], hx0, T.y_INT H, by decide +kernel, _, rfl, ?_⟩
          rw [eqv_small]
          by_cases n0 : c = 0 ∧ as = []
          · rw [decide_eq_true n0]
            refine iteT (B := _) ⟨_, rfl, b, _, _, _, rfl, rfl, hb, at0, rfl, ?_⟩
            exact yes Sm.refl (by rw [dec_s]; simp [agr, n0])
          rw [decide_eq_false n0]
          refine iteF (A := _) ?_
          -- unit
          refine ⟨_, rfl, (Sh.c c as).d, .tuple [.str "c", .int 1, .tuple []], hx0, T.y_UNIT H, by decide +kernel, _, rfl, ?_⟩
          rw [eqv_small]
          by_cases n1 : c = 1 ∧ as = []
          · rw [decide_eq_true n1]
            refine iteT (B := _) ⟨_, rfl, Nat.zero_le _, fun p hp => ⟨(show 2 ≤ sizeLine by decide), fun q hq => ?_⟩⟩
            have s1 : Sm H (upd (upd H p (.tup [])) q (.tup [.str "tuple", .ref p])) := (Sm.new hp).on hq
            refine ⟨v.d, .tuple [.str "tuple", .tuple []], hv.on (KT.same s1), Rp.mk upd_same (.cons (.str _ (by decide +kernel)) (.cons (Rp.mk (xs := []) (by rw [upd_ne (ne_of_none upd_same hq), upd_same]) .nil) .nil)), by decide +kernel, ?_⟩
            rw [eqv_unit v hvo.ok]
            refine yes s1 ?_
            obtain ⟨rfl, rfl⟩ := n1
            simp only [agr]
            rw [if_neg (by decide), if_pos (by decide)]
            cases v with
            | tup l => cases l <;> rfl
            | _ => rfl
          rw [decide_eq_false n1]
          refine iteF (A := _) ?_
          -- exn
          refine ⟨_, rfl, (Sh.c c as).d, .tuple [.str "c", .int 2, .tuple []], hx0, T.y_EXN H, by decide +kernel, _, rfl, ?_⟩
          rw [eqv_small]
          by_cases n2 : c = 2 ∧ as = []
          · rw [decide_eq_true n2]
            refine iteT (B := _) ⟨_, rfl, b, _, _, _, rfl, rfl, hb, at0, rfl, ?_⟩
            refine yes Sm.refl ?_
            rw [dec_s]
            obtain ⟨rfl, rfl⟩ := n2
            simp only [agr]
            rw [if_neg (by decide), if_neg (by decide), if_pos (by decide)]
          rw [decide_eq_false n2]
          refine iteF (A := _) ?_
          -- ref
          refine ⟨_, rfl, a, _, _, _, rfl, rfl, hs, at1, rfl, _, rfl, ?_⟩
          rw [dec_i]
          by_cases n3 : c = 3
          · rw [decide_eq_true n3]
            refine iteT (B := _) ?_
            subst n3
            have h1 : as.length = 1 := hfit'.1.trans ha.env.ar3
            match as, h1 with
            | [a0], _ =>
              by_cases ht : v.tag = "ref"
              · have hvt : ∃ i, v = .ref i := by
                  cases v with
                  | ref i => exact ⟨i, rfl⟩
                  | oth t l => simp only [Vl.oka] at hvo; exact absurd ht hvo.2.2.2
                  | int i => exact absurd ht (by simp only [Vl.tag]; decide +kernel)
                  | con0 i x => exact absurd ht (by simp only [Vl.tag]; decide +kernel)
                  | con1 i x u => exact absurd ht (by simp only [Vl.tag]; decide +kernel)
                  | tup i => exact absurd ht (by simp only [Vl.tag]; decide +kernel)
                obtain ⟨i, rfl⟩ := hvt
                obtain ⟨b', eb, hb'⟩ := inv_ref hv
                cases eb
                obtain ⟨so, ss, rfl, hso, hss⟩ := ha.sto.tup_inv
                have hsl : ss.length = st.length := by rw [hss.length, vds_len]
                have agr3 : ∀ m, agr (Ent.rowss es) st (m + 1) (Sh.c 3 [a0]) (.ref i) = (match (if 0 ≤ i then st[i.toNat]? else none) with
                  | some u => agr (Ent.rowss es) st m a0 u
                  | none => false) := fun m => by
                  simp only [agr]
                  rw [if_neg (fun z => absurd z.1 (by decide)), if_neg (fun z => absurd z.1 (by decide)), if_neg (fun z => absurd z.1 (by decide)), if_pos trivial]
                  try rfl
                refine ⟨_, rfl, b, _, _, _, rfl, rfl, hb', at0, rfl, _, rfl, iteN (by decide +kernel) ?_⟩
                refine ⟨_, rfl, b, _, _, _, rfl, rfl, hb', at1, _, _, rfl, rfl, _, rfl, ?_⟩
                by_cases hi0 : 0 ≤ i
                · rw [decide_eq_true hi0]
                  refine iteT (B := _) ⟨_, rfl, so, _, rfl, .inr hso, _, _, rfl, rfl, _, rfl, ?_⟩
                  by_cases hi1 : i < ((ss.length : Nat) : Int)
                  · rw [decide_eq_true hi1]
                    refine iteF (A := _) ?_
                    have hin : i.toNat < st.length := by omega
                    have eu : st[i.toNat]? = some st[i.toNat] := List.getElem?_eq_getElem hin
                    obtain ⟨u, eu', ru⟩ := hss.get (show (Vl.ds st)[i.toNat]? = some (st[i.toNat]).d by rw [vds_map, List.getElem?_map, eu]; rfl)
                    have hgs' := hgs
                    simp only [Sh.ds] at hgs'
                    obtain ⟨y0, ws0, rfl, ry0, _⟩ := hgs'.cons_inv
                    have ati : atI ss i = some u := by
                      have := atI_nat (xs := ss) eu'
                      rwa [Int.toNat_of_nonneg hi0] at this
                    refine ⟨_, rfl, _, rfl, a, _, _, _, rfl, rfl, hs, at2, g, _, _, _, rfl, rfl, hg, at0, _, rfl, _, rfl, b, _, _, _, rfl, rfl, hb', at1, so, _, _, _, rfl, rfl, hso, ati, _, rfl, _, rfl, _, _, rfl, rfl, ar, ex, y0, u, .ref so, d - 1, es, st, a0, st[i.toNat], rfl, by omega, ha, ry0, fits_mem hfit'.2 (by simp), ru, okas_mem ha.env.stok (List.getElem_mem hin), fun H3 s3 => ?_⟩
                    refine yes s3 ?_
                    rw [agr3, if_pos hi0, eu]
                  · rw [decide_eq_false hi1]
                    refine iteT (B := _) ?_
                    refine yes Sm.refl ?_
                    rw [agr3, if_pos hi0, List.getElem?_eq_none (by omega)]
                · rw [decide_eq_false hi0]
                  refine iteF (A := _) ?_
                  refine ⟨_, rfl, ?_⟩
                  refine iteT (B := _) ?_
                  refine yes Sm.refl ?_
                  rw [agr3, if_neg hi0]
              · refine ⟨_, rfl, b, _, _, _, rfl, rfl, hb, at0, rfl, _, rfl, iteY (by rw [str_ne ht]; rfl) ?_⟩
                refine iteT (B := _) ?_
                refine yes Sm.refl ?_
                simp only [agr]
                rw [if_neg (fun z => absurd z.1 (by decide)), if_neg (fun z => absurd z.1 (by decide)), if_neg (fun z => absurd z.1 (by decide)), if_pos trivial]
                cases v <;> first | rfl | exact absurd rfl ht
          · rw [decide_eq_false n3]
            refine iteF (A := _) ?_
            exact ⟨_, rfl, _, rfl, _, rfl, _, rfl, _, rfl, ar, ex, .ref a, .ref b, sx, d, es, st, c, as, v, rfl, by omega, by omega, ha, hx0, hfit, hv, hvo, n0, n1, n2, n3, fun H' s' => yes s' (by rw [hdn])⟩
end
end K88

set_option Elab.async false
set_option maxRecDepth 100000
set_option linter.all false
set_option maxHeartbeats 4000000
/-! the basis as entries -/
namespace AG
open PySem L2 GD
def basisE : List Ent := [
  .oth "shape" [.str "int", .int 0, .tuple [.str "c", .int 0, .tuple []]],
  .oth "shape" [.str "unit", .int 0, .tuple [.str "c", .int 1, .tuple []]],
  .oth "shape" [.str "exn", .int 0, .tuple [.str "c", .int 2, .tuple []]],
  .oth "shape" [.str "ref", .int 1, .tuple [.str "c", .int 3, .tuple [.tuple [.str "v", .int 0]]]],
  .oth "shape" [.str "bool", .int 0, .tuple [.str "c", .int 4, .tuple []]],
  .oth "shape" [.str "list", .int 1, .tuple [.str "c", .int 5, .tuple [.tuple [.str "v", .int 0]]]],
  .oth "shape" [.str "option", .int 1, .tuple [.str "c", .int 6, .tuple [.tuple [.str "v", .int 0]]]],
  .oth "shape" [.str "order", .int 0, .tuple [.str "c", .int 7, .tuple []]],
  .con ⟨"False", 0, none, 4, 0, 0, .tuple [.tuple [.str "False", .bool false], .tuple [.str "True", .bool false]]⟩,
  .con ⟨"True", 0, none, 4, 0, 1, .tuple [.tuple [.str "False", .bool false], .tuple [.str "True", .bool false]]⟩,
  .con ⟨"Nil", 1, none, 5, 1, 0, .tuple [.tuple [.str "Nil", .bool false], .tuple [.str "Cons", .bool true]]⟩,
  .con ⟨"Cons", 1, some (.t [.v 0, .c 5 [.v 0]]), 5, 1, 1, .tuple [.tuple [.str "Nil", .bool false], .tuple [.str "Cons", .bool true]]⟩,
  .con ⟨"None", 1, none, 6, 1, 0, .tuple [.tuple [.str "None", .bool false], .tuple [.str "Some", .bool true]]⟩,
  .con ⟨"Some", 1, some (.v 0), 6, 1, 1, .tuple [.tuple [.str "None", .bool false], .tuple [.str "Some", .bool true]]⟩,
  .con ⟨"Less", 0, none, 7, 0, 0, .tuple [.tuple [.str "Less", .bool false], .tuple [.str "Equal", .bool false], .tuple [.str "Greater", .bool false]]⟩,
  .con ⟨"Equal", 0, none, 7, 0, 1, .tuple [.tuple [.str "Less", .bool false], .tuple [.str "Equal", .bool false], .tuple [.str "Greater", .bool false]]⟩,
  .con ⟨"Greater", 0, none, 7, 0, 2, .tuple [.tuple [.str "Less", .bool false], .tuple [.str "Equal", .bool false], .tuple [.str "Greater", .bool false]]⟩,
  .oth "exn" [.str "Match", .none],
  .oth "exn" [.str "Bind", .none],
  .oth "exn" [.str "Div", .none],
  .oth "exn" [.str "Equality", .none],
  .oth "val" [.str "+", .tuple [.int 0, .tuple [.str "f", .tuple [.str "t", .tuple [.tuple [.str "c", .int 0, .tuple []], .tuple [.str "c", .int 0, .tuple []]]], .tuple [.str "c", .int 0, .tuple []]]]],
  .oth "val" [.str "-", .tuple [.int 0, .tuple [.str "f", .tuple [.str "t", .tuple [.tuple [.str "c", .int 0, .tuple []], .tuple [.str "c", .int 0, .tuple []]]], .tuple [.str "c", .int 0, .tuple []]]]],
  .oth "val" [.str "*", .tuple [.int 0, .tuple [.str "f", .tuple [.str "t", .tuple [.tuple [.str "c", .int 0, .tuple []], .tuple [.str "c", .int 0, .tuple []]]], .tuple [.str "c", .int 0, .tuple []]]]],
  .oth "val" [.str "div", .tuple [.int 0, .tuple [.str "f", .tuple [.str "t", .tuple [.tuple [.str "c", .int 0, .tuple []], .tuple [.str "c", .int 0, .tuple []]]], .tuple [.str "c", .int 0, .tuple []]]]],
  .oth "val" [.str "mod", .tuple [.int 0, .tuple [.str "f", .tuple [.str "t", .tuple [.tuple [.str "c", .int 0, .tuple []], .tuple [.str "c", .int 0, .tuple []]]], .tuple [.str "c", .int 0, .tuple []]]]],
  .oth "val" [.str "<", .tuple [.int 0, .tuple [.str "f", .tuple [.str "t", .tuple [.tuple [.str "c", .int 0, .tuple []], .tuple [.str "c", .int 0, .tuple []]]], .tuple [.str "c", .int 4, .tuple []]]]],
  .oth "val" [.str "<=", .tuple [.int 0, .tuple [.str "f", .tuple [.str "t", .tuple [.tuple [.str "c", .int 0, .tuple []], .tuple [.str "c", .int 0, .tuple []]]], .tuple [.str "c", .int 4, .tuple []]]]],
  .oth "val" [.str ">", .tuple [.int 0, .tuple [.str "f", .tuple [.str "t", .tuple [.tuple [.str "c", .int 0, .tuple []], .tuple [.str "c", .int 0, .tuple []]]], .tuple [.str "c", .int 4, .tuple []]]]],
  .oth "val" [.str ">=", .tuple [.int 0, .tuple [.str "f", .tuple [.str "t", .tuple [.tuple [.str "c", .int 0, .tuple []], .tuple [.str "c", .int 0, .tuple []]]], .tuple [.str "c", .int 4, .tuple []]]]],
  .oth "val" [.str "=", .tuple [.int 1, .tuple [.str "f", .tuple [.str "t", .tuple [.tuple [.str "v", .int 0], .tuple [.str "v", .int 0]]], .tuple [.str "c", .int 4, .tuple []]]]],
  .oth "val" [.str "<>", .tuple [.int 1, .tuple [.str "f", .tuple [.str "t", .tuple [.tuple [.str "v", .int 0], .tuple [.str "v", .int 0]]], .tuple [.str "c", .int 4, .tuple []]]]],
  .oth "val" [.str "~", .tuple [.int 0, .tuple [.str "f", .tuple [.str "c", .int 0, .tuple []], .tuple [.str "c", .int 0, .tuple []]]]],
  .oth "val" [.str "ref", .tuple [.int 1, .tuple [.str "f", .tuple [.str "v", .int 0], .tuple [.str "c", .int 3, .tuple [.tuple [.str "v", .int 0]]]]]],
  .oth "val" [.str "!", .tuple [.int 1, .tuple [.str "f", .tuple [.str "c", .int 3, .tuple [.tuple [.str "v", .int 0]]], .tuple [.str "v", .int 0]]]],
  .oth "val" [.str ":=", .tuple [.int 1, .tuple [.str "f", .tuple [.str "t", .tuple [.tuple [.str "c", .int 3, .tuple [.tuple [.str "v", .int 0]]], .tuple [.str "v", .int 0]]], .tuple [.str "c", .int 1, .tuple []]]]],
  .oth "val" [.str "print", .tuple [.int 0, .tuple [.str "f", .tuple [.str "c", .int 0, .tuple []], .tuple [.str "c", .int 1, .tuple []]]]],
  .oth "val" [.str "not", .tuple [.int 0, .tuple [.str "f", .tuple [.str "c", .int 4, .tuple []], .tuple [.str "c", .int 4, .tuple []]]]],
  .oth "val" [.str "@", .tuple [.int 1, .tuple [.str "f", .tuple [.str "t", .tuple [.tuple [.str "c", .int 5, .tuple [.tuple [.str "v", .int 0]]], .tuple [.str "c", .int 5, .tuple [.tuple [.str "v", .int 0]]]]], .tuple [.str "c", .int 5, .tuple [.tuple [.str "v", .int 0]]]]]]]
end AG

set_option Elab.async false
set_option maxRecDepth 100000
set_option linter.all false
set_option maxHeartbeats 4000000
/-! what the law of agreement leans on, no program in sight -/
namespace AG
open PySem L2 GD
def rowAt (rows : List Row) (s i : Int) : Option Row := (rowsOf rows s).find? fun r => decide (r.idx = i)
theorem agr_con0 {rows : List Row} {st : List Vl} {n : Nat} {s : Int} {as : List Sh} {i : Int} {x : Str} (h : s ≠ 0 ∧ s ≠ 1 ∧ s ≠ 2 ∧ s ≠ 3) :
    agr rows st (n + 1) (.c s as) (.con0 i x) = (match rowAt rows s i with
      | none => true
      | some r => decide (x = r.name) && r.arg.isNone) := by
  simp only [agr, rowAt, h.1, h.2.1, h.2.2.1, h.2.2.2, false_and, if_false]
  cases rowsOf rows s with
  | nil => rfl
  | cons r rs => rfl
theorem agr_con1 {rows : List Row} {st : List Vl} {n : Nat} {s : Int} {as : List Sh} {i : Int} {x : Str} {u : Vl} (h : s ≠ 0 ∧ s ≠ 1 ∧ s ≠ 2 ∧ s ≠ 3) :
    agr rows st (n + 1) (.c s as) (.con1 i x u) = (match rowAt rows s i with
      | none => true
      | some r => decide (x = r.name) && (match r.arg with
        | none => false
        | some a => agr rows st n (repl as a) u)) := by
  simp only [agr, rowAt, h.1, h.2.1, h.2.2.1, h.2.2.2, false_and, if_false]
  cases rowsOf rows s with
  | nil => rfl
  | cons r rs => rfl
theorem agr_nocon {rows : List Row} {st : List Vl} {n : Nat} {s : Int} {as : List Sh} {v : Vl} (h : s ≠ 0 ∧ s ≠ 1 ∧ s ≠ 2 ∧ s ≠ 3) (hr : rowsOf rows s ≠ []) (hv : v.tag ≠ "con") : agr rows st (n + 1) (.c s as) v = false := by
  simp only [agr, h.1, h.2.1, h.2.2.1, h.2.2.2, false_and, if_false]
  cases e : rowsOf rows s with
  | nil => exact absurd e hr
  | cons r rs =>
    cases v with
    | con0 i x => exact absurd rfl hv
    | con1 i x u => exact absurd rfl hv
    | _ => rfl
theorem agr_none {rows : List Row} {st : List Vl} {n : Nat} {s : Int} {as : List Sh} {v : Vl} (h : s ≠ 0 ∧ s ≠ 1 ∧ s ≠ 2 ∧ s ≠ 3) (hr : rowsOf rows s = []) : agr rows st n (.c s as) v = true := by
  cases n with
  | zero => rfl
  | succ n => simp only [agr, h.1, h.2.1, h.2.2.1, h.2.2.2, false_and, if_false, hr]
/-- a value of a shape: of height h, references below m -/
inductive VOk (rows : List Row) (st : List Vl) : Nat → Nat → Sh → Vl → Prop
  | int (h m : Nat) (i : Int) : VOk rows st (h + 1) m (.c 0 []) (.int i)
  | unit (h m : Nat) : VOk rows st (h + 1) m (.c 1 []) (.tup [])
  | exn (h m : Nat) (r : List PyData) : VOk rows st (h + 1) m (.c 2 []) (.oth "packet" r)
  | fn (h m : Nat) (a b : Sh) (g : Str) (r : List PyData) : g = "fun" ∨ g = "fix" → VOk rows st (h + 1) m (.f a b) (.oth g r)
  | pair (h m : Nat) (a b : Sh) (x y : Vl) : VOk rows st h m a x → VOk rows st h m b y → VOk rows st (h + 1) m (.t [a, b]) (.tup [x, y])
  | ref (h m i : Nat) (a : Sh) (u : Vl) : i < m → st[i]? = some u → VOk rows st h i a u → VOk rows st (h + 1) m (.c 3 [a]) (.ref (i : Int))
  | con0 (h m : Nat) (s i : Int) (as : List Sh) (r : Row) : s ≠ 0 ∧ s ≠ 1 ∧ s ≠ 2 ∧ s ≠ 3 → rowAt rows s i = some r → r.arg = none → VOk rows st (h + 1) m (.c s as) (.con0 i r.name)
  | con1 (h m : Nat) (s i : Int) (as : List Sh) (r : Row) (p : Sh) (x : Vl) : s ≠ 0 ∧ s ≠ 1 ∧ s ≠ 2 ∧ s ≠ 3 → rowAt rows s i = some r → r.arg = some p → VOk rows st h m (repl as p) x → VOk rows st (h + 1) m (.c s as) (.con1 i r.name x)
theorem VOk.more {rows : List Row} {st st' : List Vl} {h m m' : Nat} {sh : Sh} {v : Vl} (q : VOk rows st h m sh v) (hm : m ≤ m') (hs : ∀ i, i < m → st'[i]? = st[i]?) : VOk rows st' h m' sh v := by
  induction q generalizing m' with
  | int h m i => exact .int _ _ _
  | unit h m => exact .unit _ _
  | exn h m r => exact .exn _ _ _
  | fn h m a b g r e => exact .fn _ _ _ _ _ _ e
  | pair h m a b x y _ _ i1 i2 => exact .pair _ _ _ _ _ _ (i1 hm hs) (i2 hm hs)
  | ref h m i a u hi e _ i1 => exact .ref _ _ i _ u (by omega) (by rw [hs i hi]; exact e) (i1 (Nat.le_refl _) fun j hj => hs j (by omega))
  | con0 h m s i as r n e ea => exact .con0 _ _ _ _ _ _ n e ea
  | con1 h m s i as r p x n e ea _ i1 => exact .con1 _ _ _ _ _ _ p _ n e ea (i1 hm hs)
theorem VOk.hi {rows : List Row} {st : List Vl} {h h' m : Nat} {sh : Sh} {v : Vl} (q : VOk rows st h m sh v) (hh : h ≤ h') : VOk rows st h' m sh v := by
  induction q generalizing h' with
  | int h m i => obtain ⟨k, rfl⟩ : ∃ k, h' = k + 1 := ⟨h' - 1, by omega⟩; exact .int _ _ _
  | unit h m => obtain ⟨k, rfl⟩ : ∃ k, h' = k + 1 := ⟨h' - 1, by omega⟩; exact .unit _ _
  | exn h m r => obtain ⟨k, rfl⟩ : ∃ k, h' = k + 1 := ⟨h' - 1, by omega⟩; exact .exn _ _ _
  | fn h m a b g r e => obtain ⟨k, rfl⟩ : ∃ k, h' = k + 1 := ⟨h' - 1, by omega⟩; exact .fn _ _ _ _ _ _ e
  | pair h m a b x y _ _ i1 i2 => obtain ⟨k, rfl⟩ : ∃ k, h' = k + 1 := ⟨h' - 1, by omega⟩; exact .pair _ _ _ _ _ _ (i1 (by omega)) (i2 (by omega))
  | ref h m i a u hi e _ i1 => obtain ⟨k, rfl⟩ : ∃ k, h' = k + 1 := ⟨h' - 1, by omega⟩; exact .ref _ _ i _ u hi e (i1 (by omega))
  | con0 h m s i as r n e ea => obtain ⟨k, rfl⟩ : ∃ k, h' = k + 1 := ⟨h' - 1, by omega⟩; exact .con0 _ _ _ _ _ _ n e ea
  | con1 h m s i as r p x n e ea _ i1 => obtain ⟨k, rfl⟩ : ∃ k, h' = k + 1 := ⟨h' - 1, by omega⟩; exact .con1 _ _ _ _ _ _ p _ n e ea (i1 (by omega))
/-- rows that may lack some -/
def Sub (rows rows' : List Row) : Prop := ∀ s i r, rowAt rows' s i = some r → rowAt rows s i = some r
theorem VOk.agrees {rows rows' : List Row} {st : List Vl} (hs : Sub rows rows') {h m : Nat} {sh : Sh} {v : Vl} (q : VOk rows st h m sh v) : ∀ d, agr rows' st d sh v = true := by
  induction q with
  | int h m i => intro d; cases d <;> simp [agr, Vl.tag]
  | unit h m => intro d; cases d <;> simp [agr]
  | exn h m r => intro d; cases d <;> simp [agr, Vl.tag]
  | fn h m a b g r e =>
    intro d
    cases d with
    | zero => rfl
    | succ d =>
      simp only [agr, Vl.tag]
      rcases e with e | e <;> simp [e]
  | pair h m a b x y _ _ i1 i2 => intro d; cases d <;> simp [agr, zipAll, i1, i2]
  | ref h m i a u hi e _ i1 => intro d; cases d <;> simp [agr, e, i1]
  | con0 h m s i as r n e ea =>
    intro d
    cases d with
    | zero => rfl
    | succ d =>
      rw [agr_con0 n]
      cases e' : rowAt rows' s i with
      | none => rfl
      | some r' =>
        have := hs _ _ _ e'
        rw [e] at this
        cases this
        simp [ea]
  | con1 h m s i as r p x n e ea _ i1 =>
    intro d
    cases d with
    | zero => rfl
    | succ d =>
      rw [agr_con1 n]
      cases e' : rowAt rows' s i with
      | none => rfl
      | some r' =>
        have := hs _ _ _ e'
        rw [e] at this
        cases this
        simp [ea, i1]
/-- what a spoilt value is: w in place of v, the store t in place of s -/
inductive Spo : List Vl → Vl → Vl → List Vl → Prop
  | tup (st st' : List Vl) (vs : List Vl) (i : Nat) (x x' : Vl) : vs[i]? = some x → Spo st x x' st' → Spo st (.tup vs) (.tup (vs.set i x')) st'
  | con (st st' : List Vl) (i : Int) (n : Str) (x x' : Vl) : Spo st x x' st' → Spo st (.con1 i n x) (.con1 i n x') st'
  | ref (st st' : List Vl) (i : Nat) (u u' : Vl) : st[i]? = some u → Spo st u u' st' → Spo st (.ref (i : Int)) (.ref (i : Int)) (st'.set i u')
  | name0 (st : List Vl) (i : Int) (n k : Str) : k ≠ n → Spo st (.con0 i n) (.con0 i k) st
  | name1 (st : List Vl) (i : Int) (n k : Str) (x : Vl) : k ≠ n → Spo st (.con1 i n x) (.con1 i k x) st
  | arg0 (st : List Vl) (i : Int) (n : Str) (x : Vl) : Spo st (.con0 i n) (.con1 i n x) st
  | arg1 (st : List Vl) (i : Int) (n : Str) (x : Vl) : Spo st (.con1 i n x) (.con0 i n) st
  | idx0 (st : List Vl) (i : Int) (n : Str) : Spo st (.con0 i n) (.con0 (if i = 0 then 1 else 0) n) st
  | idx1 (st : List Vl) (i : Int) (n : Str) (x : Vl) : Spo st (.con1 i n x) (.con1 (if i = 0 then 1 else 0) n x) st
  | kind (st : List Vl) (v w : Vl) : w.tag ≠ v.tag → w.tag ≠ "fun" → w.tag ≠ "fix" → Spo st v w st
  | many (st : List Vl) (vs ws : List Vl) : ws.length ≠ vs.length → Spo st (.tup vs) (.tup ws) st
theorem Spo.len {st st' : List Vl} {v w : Vl} (q : Spo st v w st') : st'.length = st.length := by
  induction q with
  | tup st' vs i x x' _ _ ih => exact ih
  | con st' i n x x' _ ih => exact ih
  | ref st' i u u' _ _ ih => rw [List.length_set]; exact ih
  | _ => rfl
/-- every index leads to another name -/
def Other (rows : List Row) : Prop := ∀ s i r, (s ≠ 0 ∧ s ≠ 1 ∧ s ≠ 2 ∧ s ≠ 3) → rowAt rows s i = some r → ∃ r', rowAt rows s (if i = 0 then 1 else 0) = some r' ∧ r'.name ≠ r.name
theorem rowAt_ne {rows : List Row} {s i : Int} {r : Row} (h : rowAt rows s i = some r) : rowsOf rows s ≠ [] := fun e => by
  unfold rowAt at h
  rw [e] at h
  cases h
theorem VOk.spoilt {rows : List Row} (ho : Other rows) {st : List Vl} {h m : Nat} {sh : Sh} {v : Vl} (q : VOk rows st h m sh v) : ∀ {w : Vl} {st' : List Vl}, Spo st v w st' →
    ∀ (st2 : List Vl) (d : Nat), h ≤ d → (∀ i, i < m → st2[i]? = st'[i]?) → agr rows st2 d sh w = false := by
  induction q with
  | int h m i =>
    intro w st' p st2 d hd _
    obtain ⟨d, rfl⟩ : ∃ k, d = k + 1 := ⟨d - 1, by omega⟩
    cases p with
    | kind _ _ n1 n2 n3 =>
      have e : agr rows st2 (d + 1) (.c 0 []) w = decide (w.tag = "int") := by simp [agr]
      rw [e]
      exact decide_eq_false n1
  | unit h m =>
    intro w st' p st2 d hd _
    obtain ⟨d, rfl⟩ : ∃ k, d = k + 1 := ⟨d - 1, by omega⟩
    cases p with
    | tup _ _ i x x' e _ => simp at e
    | kind _ _ n1 n2 n3 =>
      cases w with
      | tup l => exact absurd rfl n1
      | _ => simp [agr]
    | many _ ws n =>
      cases ws with
      | nil => exact absurd rfl n
      | cons x r => simp [agr]
  | exn h m r =>
    intro w st' p st2 d hd _
    obtain ⟨d, rfl⟩ : ∃ k, d = k + 1 := ⟨d - 1, by omega⟩
    cases p with
    | kind _ _ n1 n2 n3 =>
      have e : agr rows st2 (d + 1) (.c 2 []) w = decide (w.tag = "packet") := by simp [agr]
      rw [e]
      exact decide_eq_false n1
  | fn h m a b g r e =>
    intro w st' p st2 d hd _
    obtain ⟨d, rfl⟩ : ∃ k, d = k + 1 := ⟨d - 1, by omega⟩
    cases p with
    | kind _ _ n1 n2 n3 => simp [agr, n2, n3]
  | pair h m a b x y _ _ i1 i2 =>
    intro w st' p st2 d hd hst
    obtain ⟨d, rfl⟩ : ∃ k, d = k + 1 := ⟨d - 1, by omega⟩
    cases p with
    | tup _ _ i z z' e p' =>
      simp only [agr]
      match i, e with
      | 0, e =>
        simp at e
        subst e
        have := i1 p' st2 d (by omega) hst
        simp [zipAll, this]
      | 1, e =>
        simp at e
        subst e
        have := i2 p' st2 d (by omega) hst
        simp [zipAll, this]
      | i + 2, e => simp at e
    | kind _ _ n1 n2 n3 =>
      cases w with
      | tup l => exact absurd rfl n1
      | _ => simp [agr]
    | many _ ws n =>
      simp only [agr]
      exact zipAll_len (fun z => n z.symm)
  | ref h m i a u hi e qu i1 =>
    intro w st' p st2 d hd hst
    obtain ⟨d, rfl⟩ : ∃ k, d = k + 1 := ⟨d - 1, by omega⟩
    generalize hv : Vl.ref (i : Int) = v at p
    cases p with
    | ref st1 i' u0 u' e' p' =>
      cases hv
      rw [e] at e'
      cases e'
      have hl := p'.len
      have hil : i < st1.length := by
        have := (List.getElem?_eq_some_iff.mp e).1
        omega
      have e2 : st2[i]? = some u' := by rw [hst i hi, List.getElem?_set_self hil]
      have := i1 p' st2 d (by omega) fun j hj => by
        rw [hst j (by omega), List.getElem?_set_ne (by omega)]
      simp [agr, e2, this]
    | kind _ _ n1 n2 n3 =>
      subst hv
      cases w with
      | ref l => exact absurd rfl n1
      | _ => simp [agr]
    | _ => cases hv
  | con0 h m s i as r n e ea =>
    intro w st' p st2 d hd _
    obtain ⟨d, rfl⟩ : ∃ k, d = k + 1 := ⟨d - 1, by omega⟩
    cases p with
    | name0 _ _ k nk => rw [agr_con0 n, e]; simp [nk]
    | arg0 _ _ x => rw [agr_con1 n, e]; simp [ea]
    | idx0 _ _ =>
      obtain ⟨r', e', hn⟩ := ho s i r n e
      rw [agr_con0 n, e']
      simp [Ne.symm hn]
    | kind _ _ n1 n2 n3 => exact agr_nocon n (rowAt_ne e) n1
  | con1 h m s i as r p x n e ea _ i1 =>
    intro w st' q st2 d hd hst
    obtain ⟨d, rfl⟩ : ∃ k, d = k + 1 := ⟨d - 1, by omega⟩
    cases q with
    | con _ _ _ _ x' q' =>
      have := i1 q' st2 d (by omega) hst
      rw [agr_con1 n, e]
      simp [ea, this]
    | name1 _ _ k _ nk => rw [agr_con1 n, e]; simp [nk]
    | arg1 _ _ _ => rw [agr_con0 n, e]; simp [ea]
    | idx1 _ _ _ =>
      obtain ⟨r', e', hn⟩ := ho s i r n e
      rw [agr_con1 n, e']
      simp [Ne.symm hn]
    | kind _ _ n1 n2 n3 => exact agr_nocon n (rowAt_ne e) n1
end AG

set_option Elab.async false
set_option maxRecDepth 100000
set_option linter.all false
set_option maxHeartbeats 4000000
namespace AG
open PySem L2 GD
def famO : PyData := .tuple [.tuple [.str "A", .bool true], .tuple [.str "B", .bool false], .tuple [.str "C", .bool true]]
def rowA : Row := ⟨"A", 2, some (.t [.v 0, .c 8 [.v 1, .v 0]]), 8, 2, 0, famO⟩
def rowB : Row := ⟨"B", 2, none, 8, 2, 1, famO⟩
def rowC : Row := ⟨"C", 2, some (.v 1), 8, 2, 2, famO⟩
def own (h : Int) : List Ent := (if h = 0 then [] else [.con rowA]) ++ ((if h = 1 then [] else [.con rowB]) ++ (if h = 2 then [] else [.con rowC]))
def esOf (h : Int) : List Ent := basisE ++ [.mod "M" (own h)]
def basisR : List Row := Ent.rowss basisE
def ownR (h : Int) : List Row := (if h = 0 then [] else [rowA]) ++ ((if h = 1 then [] else [rowB]) ++ (if h = 2 then [] else [rowC]))
theorem rows_own (h : Int) : Ent.rowss (own h) = ownR h := by
  unfold own ownR
  rw [rowss_app, rowss_app]
  congr 1
  · split <;> simp [Ent.rowss, Ent.rows]
  · congr 1
    · split <;> simp [Ent.rowss, Ent.rows]
    · split <;> simp [Ent.rowss, Ent.rows]
theorem rows_es (h : Int) : Ent.rowss (esOf h) = basisR ++ ownR h := by
  unfold esOf
  rw [rowss_app]
  simp only [Ent.rowss, Ent.rows, rows_own, List.append_nil, basisR]
def full : List Row := basisR ++ [rowA, rowB, rowC]
theorem rows_full : Ent.rowss (esOf 3) = full := by rw [rows_es]; rfl
theorem own_sub (h : Int) : ∀ r ∈ ownR h, r ∈ [rowA, rowB, rowC] := by
  unfold ownR
  intro r hr
  rcases List.mem_append.mp hr with hr | hr
  · split at hr
    · cases hr
    · rw [List.mem_singleton.mp hr]; simp
  · rcases List.mem_append.mp hr with hr | hr
    · split at hr
      · cases hr
      · rw [List.mem_singleton.mp hr]; simp
    · split at hr
      · cases hr
      · rw [List.mem_singleton.mp hr]; simp
theorem uniq_full : full.Pairwise fun a b => ¬ (a.st = b.st ∧ a.idx = b.idx) := by decide +kernel
theorem rowAt_mem {rows : List Row} {s i : Int} {r : Row} (h : rowAt rows s i = some r) : r ∈ rows ∧ r.st = s ∧ r.idx = i := by
  unfold rowAt rowsOf at h
  have h1 := List.mem_of_find?_eq_some h
  have h2 := List.find?_some h
  have h3 := List.mem_filter.mp h1
  exact ⟨h3.1, by simpa using h3.2, by simpa using h2⟩
theorem pw_two {R : Row → Row → Prop} : ∀ {l : List Row}, l.Pairwise R → ∀ {a b : Row}, a ∈ l → b ∈ l → a ≠ b → R a b ∨ R b a
  | [], _, _, _, h, _, _ => (nomatch h)
  | x :: l, h, a, b, ha, hb, n => by
    obtain ⟨h1, h2⟩ := List.pairwise_cons.mp h
    rcases List.mem_cons.mp ha with q | q
    · rcases List.mem_cons.mp hb with p | p
      · exact absurd (q.trans p.symm) n
      · rw [q]; exact .inl (h1 b p)
    · rcases List.mem_cons.mp hb with p | p
      · rw [p]; exact .inr (h1 a q)
      · exact pw_two h2 q p n
theorem rowAt_of {rows : List Row} (u : rows.Pairwise fun a b => ¬ (a.st = b.st ∧ a.idx = b.idx)) {r : Row} (h : r ∈ rows) : rowAt rows r.st r.idx = some r := by
  cases e : rowAt rows r.st r.idx with
  | none =>
    unfold rowAt rowsOf at e
    rw [List.find?_eq_none] at e
    have := e r (List.mem_filter.mpr ⟨h, by simp⟩)
    simp at this
  | some r' =>
    obtain ⟨h1, h2, h3⟩ := rowAt_mem e
    by_cases q : r' = r
    · rw [q]
    · exfalso
      rcases pw_two u h1 h q with k | k
      · exact k ⟨h2, h3⟩
      · exact k ⟨h2.symm, h3.symm⟩
theorem sub_es (h : Int) : Sub full (Ent.rowss (esOf h)) := by
  intro s i r e
  obtain ⟨h1, h2, h3⟩ := rowAt_mem e
  have hm : r ∈ full := by
    rw [rows_es] at h1
    unfold full
    rcases List.mem_append.mp h1 with q | q
    · exact List.mem_append_left _ q
    · exact List.mem_append_right _ (own_sub h r q)
  have := rowAt_of uniq_full hm
  rw [h2, h3] at this
  exact this
theorem other_full : Other full := by
  intro s i r n e
  obtain ⟨h1, h2, h3⟩ := rowAt_mem e
  have key : (full.all fun r => full.any fun r' => decide (r'.st = r.st) && (decide (r'.idx = if r.idx = 0 then 1 else 0) && decide (r'.name ≠ r.name))) = true := by decide +kernel
  have k1 := List.all_eq_true.mp key r h1
  obtain ⟨r', hr', k2⟩ := List.any_eq_true.mp k1
  simp only [Bool.and_eq_true, decide_eq_true_eq] at k2
  obtain ⟨e1, e2, e3⟩ := k2
  have := rowAt_of uniq_full hr'
  rw [e1, e2, h2, h3] at this
  exact ⟨r', this, e3⟩
/-- how many arguments each takes; k those of 9 -/
def arK (k : Nat) (s : Int) : Nat := if s = 3 ∨ s = 5 ∨ s = 6 then 1 else if s = 8 then 2 else if s = 9 then k else 0
theorem arK_le {k : Nat} (hk : k ≤ 1) (s : Int) : arK k s ≤ 100 := by
  unfold arK
  split
  · omega
  · split
    · omega
    · split <;> omega
theorem full_ok (k : Nat) : ∀ r ∈ full, RowOk (arK k) r := by
  have key : ∀ r ∈ full, r.m = arK k r.st ∧ ∀ a, r.arg = some a → a.fit (arK k) ∧ a.dep ≤ 8 := by
    unfold full basisR basisE
    simp only [Ent.rowss, Ent.rows, List.cons_append, List.nil_append, List.append_nil]
    intro r hr
    simp only [List.mem_cons, List.not_mem_nil, or_false] at hr
    rcases hr with rfl | rfl | rfl | rfl | rfl | rfl | rfl | rfl | rfl | rfl | rfl | rfl <;> refine ⟨by simp [arK, rowA, rowB, rowC], fun a ha => ?_⟩ <;> first
      | (cases ha; done)
      | (cases ha; refine ⟨by simp [Sh.fit, Sh.fits, arK], by simp [Sh.dep, Sh.deps] <;> decide⟩)
  exact fun r hr => ⟨(key r hr).1, (key r hr).2⟩
theorem basis_oks : Ent.oks basisE := by
  have n1 : ("shape" : Str) ≠ "con" := by decide +kernel
  have n2 : ("shape" : Str) ≠ "module" := by decide +kernel
  have n3 : ("exn" : Str) ≠ "con" := by decide +kernel
  have n4 : ("exn" : Str) ≠ "module" := by decide +kernel
  have n5 : ("val" : Str) ≠ "con" := by decide +kernel
  have n6 : ("val" : Str) ≠ "module" := by decide +kernel
  unfold basisE
  simp only [Ent.oks, Ent.ok, n1, n2, n3, n4, n5, n6, ne_eq, not_false_eq_true, and_self]
theorem oks_app : ∀ {a b : List Ent}, Ent.oks a → Ent.oks b → Ent.oks (a ++ b)
  | [], _, _, h => h
  | x :: a, b, h, k => by
    simp only [List.cons_append, Ent.oks] at h ⊢
    exact ⟨h.1, oks_app h.2 k⟩
theorem deps_app : ∀ {a b : List Ent} {n : Nat}, Ent.deps a ≤ n → Ent.deps b ≤ n → Ent.deps (a ++ b) ≤ n
  | [], _, _, _, h => h
  | x :: a, b, n, h, k => by
    simp only [List.cons_append, Ent.deps] at h ⊢
    exact Nat.max_le.mpr ⟨Nat.le_trans (Nat.le_max_left _ _) h, deps_app (Nat.le_trans (Nat.le_max_right _ _) h) k⟩
theorem basis_deps : Ent.deps basisE ≤ 0 := by
  unfold basisE
  simp only [Ent.deps, Ent.dep]
  decide
theorem own_oks (h : Int) : Ent.oks (own h) := by
  unfold own
  refine oks_app ?_ (oks_app ?_ ?_) <;> split <;> simp [Ent.oks, Ent.ok]
theorem own_deps (h : Int) : Ent.deps (own h) ≤ 0 := by
  unfold own
  refine deps_app ?_ (deps_app ?_ ?_) <;> split <;> simp [Ent.deps, Ent.dep]
theorem es_env (h : Int) (k : Nat) (hk : k ≤ 1) (st : List Vl) (hst : Vl.okas st) : Env (arK k) (esOf h) st where
  oks := oks_app basis_oks (by simp only [Ent.oks, Ent.ok]; exact ⟨own_oks h, trivial⟩)
  deps := deps_app (Nat.le_trans basis_deps (by decide)) (by simp only [Ent.deps, Ent.dep]; have := own_deps h; exact Nat.max_le.mpr ⟨by omega, by decide⟩)
  few := by
    rw [rows_es, List.length_append]
    have h1 : basisR.length ≤ 900 := by decide +kernel
    have h2 : (ownR h).length ≤ 3 := by
      unfold ownR
      split <;> split <;> split <;> decide
    omega
  rok := fun r hr => by
    rw [rows_es] at hr
    refine full_ok k r ?_
    unfold full
    rcases List.mem_append.mp hr with q | q
    · exact List.mem_append_left _ q
    · exact List.mem_append_right _ (own_sub h r q)
  stok := hst
  ar3 := by simp [arK]
  arb := arK_le hk
/-! ### a fault so many levels deep -/
inductive Dk : Nat → Sh → Vl → Prop
  | z : Dk 0 (.c 0 []) (.tup [])
  | opt (k : Nat) (s : Sh) (v : Vl) : Dk k s v → Dk (k + 1) (.c 6 [s]) (.con1 1 "Some" v)
  | pair (k : Nat) (s : Sh) (v : Vl) : Dk k s v → Dk (k + 1) (.t [.c 1 [], s]) (.tup [.tup [], v])
  | own (k : Nat) (s : Sh) (v : Vl) : Dk k s v → Dk (k + 1) (.c 8 [.c 1 [], s]) (.con1 2 "C" v)
theorem Dk.agr {k : Nat} {s : Sh} {v : Vl} {st : List Vl} (q : Dk k s v) : ∀ d, agr full st d s v = decide (d ≤ k) := by
  induction q with
  | z => intro d; cases d <;> simp [AG.agr, Vl.tag] <;> decide +kernel
  | opt k s v _ ih =>
    intro d
    cases d with
    | zero => simp [AG.agr]
    | succ d =>
      have e : rowAt full 6 1 = some ⟨"Some", 1, some (.v 0), 6, 1, 1, .tuple [.tuple [.str "None", .bool false], .tuple [.str "Some", .bool true]]⟩ := rowAt_of (r := ⟨"Some", 1, some (.v 0), 6, 1, 1, .tuple [.tuple [.str "None", .bool false], .tuple [.str "Some", .bool true]]⟩) uniq_full (by unfold full basisR basisE; simp [Ent.rowss, Ent.rows])
      rw [agr_con1 (by decide), e]
      simp [repl, pick, ih]
  | pair k s v _ ih =>
    intro d
    cases d with
    | zero => simp [AG.agr]
    | succ d =>
      have e1 : AG.agr full st d (.c 1 []) (.tup []) = true := by cases d <;> simp [AG.agr]
      simp [AG.agr, zipAll, e1, ih]
  | own k s v _ ih =>
    intro d
    cases d with
    | zero => simp [AG.agr]
    | succ d =>
      have e : rowAt full 8 2 = some rowC := rowAt_of (r := rowC) uniq_full (by unfold full; simp)
      rw [agr_con1 (by decide), e]
      simp [rowC, repl, pick, ih]
theorem Dk.fit {k : Nat} {s : Sh} {v : Vl} (q : Dk k s v) : s.fit (arK 0) ∧ v.oka := by
  induction q with
  | z => simp [Sh.fit, Sh.fits, arK, Vl.oka, Vl.okas]
  | opt k s v _ ih => simp [Sh.fit, Sh.fits, arK, Vl.oka, Vl.okas, ih]
  | pair k s v _ ih => simp [Sh.fit, Sh.fits, arK, Vl.oka, Vl.okas, ih]
  | own k s v _ ih => simp [Sh.fit, Sh.fits, arK, Vl.oka, Vl.okas, ih]
/-! ### a ring -/
def rowR : Row := ⟨"R", 0, some (.c 3 [.c 9 []]), 9, 0, 0, .tuple [.tuple [.str "R", .bool true]]⟩
def esR : List Ent := basisE ++ [.con rowR]
def ring : Vl := .con1 0 "R" (.ref 0)
theorem rows_R : Ent.rowss esR = basisR ++ [rowR] := by
  unfold esR
  rw [rowss_app]
  simp only [Ent.rowss, Ent.rows, List.append_nil, basisR]
theorem uniq_R : (basisR ++ [rowR]).Pairwise fun a b => ¬ (a.st = b.st ∧ a.idx = b.idx) := by decide +kernel
theorem at_R : rowAt (Ent.rowss esR) 9 0 = some rowR := by
  rw [rows_R]
  exact rowAt_of (r := rowR) uniq_R (by simp)
theorem agr_ref {rows : List Row} {st : List Vl} {n : Nat} {a : Sh} {i : Nat} {u : Vl} (h : st[i]? = some u) : agr rows st (n + 1) (.c 3 [a]) (.ref (i : Int)) = agr rows st n a u := by
  simp [agr, h]
theorem ring_ok : ∀ d, agr (Ent.rowss esR) [ring] d (.c 9 []) ring = true ∧ agr (Ent.rowss esR) [ring] d (.c 3 [.c 9 []]) (.ref 0) = true
  | 0 => ⟨rfl, rfl⟩
  | d + 1 => by
    obtain ⟨h1, h2⟩ := ring_ok d
    refine ⟨?_, ?_⟩
    · unfold ring at h2 ⊢
      rw [agr_con1 (by decide), at_R]
      simp [rowR, repl, repls, h2]
    · have := agr_ref (rows := Ent.rowss esR) (st := [ring]) (n := d) (a := .c 9 []) (i := 0) (u := ring) rfl
      exact this.trans h1
theorem ring_no : agr (Ent.rowss esR) [.con1 0 "R" (.int 0)] 4 (.c 9 []) ring = false := by
  unfold ring
  rw [agr_con1 (by decide), at_R]
  have e1 := agr_ref (rows := Ent.rowss esR) (st := [Vl.con1 0 "R" (.int 0)]) (n := 2) (a := .c 9 []) (i := 0) (u := .con1 0 "R" (.int 0)) rfl
  have e2 : agr (Ent.rowss esR) [.con1 0 "R" (.int 0)] 2 (.c 9 []) (.con1 0 "R" (.int 0)) = false := by
    rw [agr_con1 (by decide), at_R]
    simp [rowR, repl, repls, agr]
  simp only [rowR, repl, repls]
  rw [show ((0 : Nat) : Int) = 0 from rfl] at e1
  rw [e1, e2]
  simp
theorem esR_env (st : List Vl) (hst : Vl.okas st) : Env (arK 0) esR st where
  oks := oks_app basis_oks (by simp only [Ent.oks, Ent.ok]; exact ⟨trivial, trivial⟩)
  deps := deps_app (Nat.le_trans basis_deps (by decide)) (by simp [Ent.deps, Ent.dep])
  few := by
    rw [rows_R, List.length_append]
    have h1 : basisR.length ≤ 900 := by decide +kernel
    simp only [List.length_cons, List.length_nil]
    omega
  rok := fun r hr => by
    rw [rows_R] at hr
    rcases List.mem_append.mp hr with q | q
    · exact full_ok 0 r (List.mem_append_left _ q)
    · rw [List.mem_singleton.mp q]
      exact ⟨rfl, fun a ha => by cases ha; exact ⟨by simp [Sh.fit, Sh.fits, arK], by simp [Sh.dep, Sh.deps] <;> decide⟩⟩
  stok := hst
  ar3 := by simp [arK]
  arb := arK_le (by decide)
/-! ### a parameter that doubles -/
def famG : PyData := .tuple [.tuple [.str "N", .bool false], .tuple [.str "A", .bool true]]
def rowN : Row := ⟨"N", 1, none, 9, 1, 0, famG⟩
def rowD : Row := ⟨"A", 1, some (.c 9 [.t [.v 0, .v 0]]), 9, 1, 1, famG⟩
def esG : List Ent := basisE ++ [.con rowN, .con rowD]
def grow : Vl → Nat → Vl
  | v, 0 => v
  | v, k + 1 => .con1 1 "A" (grow v k)
theorem rows_G : Ent.rowss esG = basisR ++ [rowN, rowD] := by
  unfold esG
  rw [rowss_app]
  simp only [Ent.rowss, Ent.rows, List.append_nil, List.singleton_append, basisR]
theorem uniq_G : (basisR ++ [rowN, rowD]).Pairwise fun a b => ¬ (a.st = b.st ∧ a.idx = b.idx) := by decide +kernel
theorem at_D : rowAt (Ent.rowss esG) 9 1 = some rowD := by
  rw [rows_G]
  exact rowAt_of (r := rowD) uniq_G (by simp)
theorem at_N : rowAt (Ent.rowss esG) 9 0 = some rowN := by
  rw [rows_G]
  exact rowAt_of (r := rowN) uniq_G (by simp)
theorem grow_ok (st : List Vl) : ∀ (k d : Nat) (s : Sh), agr (Ent.rowss esG) st d (.c 9 [s]) (grow (.con0 0 "N") k) = true
  | _, 0, _ => rfl
  | 0, d + 1, s => by
    unfold grow
    rw [agr_con0 (by decide), at_N]
    simp [rowN]
  | k + 1, d + 1, s => by
    unfold grow
    rw [agr_con1 (by decide), at_D]
    simp [rowD, repl, repls, grow_ok st k d]
theorem grow_no (st : List Vl) : ∀ (k d : Nat) (s : Sh), agr (Ent.rowss esG) st d (.c 9 [s]) (grow (.int 0) k) = decide (d ≤ k)
  | k, 0, _ => by simp [agr]
  | 0, d + 1, s => by
    unfold grow
    rw [agr_nocon (by decide) (rowAt_ne at_N) (by simp only [Vl.tag]; decide +kernel)]
    simp
  | k + 1, d + 1, s => by
    unfold grow
    rw [agr_con1 (by decide), at_D]
    simp [rowD, repl, repls, grow_no st k d]
theorem esG_env (st : List Vl) (hst : Vl.okas st) : Env (arK 1) esG st where
  oks := oks_app basis_oks (by simp only [Ent.oks, Ent.ok]; exact ⟨trivial, trivial, trivial⟩)
  deps := deps_app (Nat.le_trans basis_deps (by decide)) (by simp [Ent.deps, Ent.dep])
  few := by
    rw [rows_G, List.length_append]
    have h1 : basisR.length ≤ 900 := by decide +kernel
    simp only [List.length_cons, List.length_nil]
    omega
  rok := fun r hr => by
    rw [rows_G] at hr
    rcases List.mem_append.mp hr with q | q
    · exact full_ok 1 r (List.mem_append_left _ q)
    · simp only [List.mem_cons, List.not_mem_nil, or_false] at q
      rcases q with rfl | rfl
      · exact ⟨rfl, fun a ha => by cases ha⟩
      · exact ⟨rfl, fun a ha => by cases ha; exact ⟨by simp [Sh.fit, Sh.fits, arK], by simp [Sh.dep, Sh.deps] <;> decide⟩⟩
  stok := hst
  ar3 := by simp [arK]
  arb := arK_le (by decide)
end AG
namespace AG
open PySem L2 GD
/-- shapes that are drawn -/
inductive GS : Nat → Sh → Prop
  | leaf (n : Nat) (s : Int) : s = 0 ∨ s = 1 ∨ s = 4 ∨ s = 2 ∨ s = 7 → GS n (.c s [])
  | one (n : Nat) (s : Int) (a : Sh) : s = 5 ∨ s = 6 ∨ s = 3 → GS n a → GS (n + 1) (.c s [a])
  | pair (n : Nat) (a b : Sh) : GS n a → GS n b → GS (n + 1) (.t [a, b])
  | fn (n : Nat) (a b : Sh) : GS n a → GS n b → GS (n + 1) (.f a b)
  | own (n : Nat) (a b : Sh) : GS n a → GS n b → GS (n + 1) (.c 8 [a, b])
theorem GS.fit {n : Nat} {s : Sh} (h : GS n s) : s.fit (arK 0) := by
  induction h with
  | leaf n s e => rcases e with e | e | e | e | e <;> subst e <;> simp [Sh.fit, Sh.fits, arK]
  | one n s a e _ ih => rcases e with e | e | e <;> subst e <;> simp [Sh.fit, Sh.fits, arK, ih]
  | pair n a b _ _ i1 i2 => simp [Sh.fit, Sh.fits, i1, i2]
  | fn n a b _ _ i1 i2 => simp [Sh.fit, i1, i2]
  | own n a b _ _ i1 i2 => simp [Sh.fit, Sh.fits, arK, i1, i2]
end AG
namespace AG
open PySem L2 GD
theorem VOk.oka {rows : List Row} {st : List Vl} {h m : Nat} {sh : Sh} {v : Vl} (q : VOk rows st h m sh v) : v.oka := by
  induction q with
  | int h m i => simp [Vl.oka]
  | unit h m => simp [Vl.oka, Vl.okas]
  | exn h m r => simp only [Vl.oka]; decide +kernel
  | fn h m a b g r e => rcases e with e | e <;> subst e <;> simp only [Vl.oka] <;> decide +kernel
  | pair h m a b x y _ _ i1 i2 => simp [Vl.oka, Vl.okas, i1, i2]
  | ref h m i a u _ _ _ _ => simp [Vl.oka]
  | con0 h m s i as r n e ea => simp [Vl.oka]
  | con1 h m s i as r p x n e ea _ i1 => simp [Vl.oka, i1]
theorem GS.mem {n : Nat} {sh : Sh} (h : GS n sh) : ∃ m, n = m ∧ GS m sh := ⟨n, rfl, h⟩
/-- st' goes on from st -/
def Pre (st st' : List Vl) : Prop := st.length ≤ st'.length ∧ ∀ i, i < st.length → st'[i]? = st[i]?
theorem Pre.refl {st : List Vl} : Pre st st := ⟨Nat.le_refl _, fun _ _ => rfl⟩
theorem Pre.trans {a b c : List Vl} (h : Pre a b) (k : Pre b c) : Pre a c := ⟨Nat.le_trans h.1 k.1, fun i hi => (k.2 i (Nat.lt_of_lt_of_le hi h.1)).trans (h.2 i hi)⟩
theorem Pre.add {st : List Vl} {v : Vl} : Pre st (st ++ [v]) := ⟨by simp, fun i hi => List.getElem?_append_left hi⟩
theorem VOk.pre {rows : List Row} {st st' : List Vl} {h : Nat} {sh : Sh} {v : Vl} (q : VOk rows st h st.length sh v) (p : Pre st st') : VOk rows st' h st'.length sh v := q.more p.1 p.2
theorem okas_app : ∀ {a b : List Vl}, Vl.okas a → Vl.okas b → Vl.okas (a ++ b)
  | [], _, _, h => h
  | x :: a, b, h, k => by
    simp only [List.cons_append, Vl.okas] at h ⊢
    exact ⟨h.1, okas_app h.2 k⟩
end AG

set_option Elab.async false
set_option maxRecDepth 100000
set_option linter.all false
set_option maxHeartbeats 40000000
namespace K88
open PySem L2 GD AG
section
variable {P : Program} {w : World} {K : PySem.W.Frag} {mg : Str → Option Value} {base : Heap} {A : Adr}
theorem Sm.sm {H H1 H2 : Hp} (h : Sm H H1) (k : Sm H1 H2) : Sm H H2 := fun a o e => k a o (h a o e)
theorem basis_eq : BASIS_D = .tuple [.tuple (Ent.ds basisE), .tuple [.int 0, .int 0, .int 0, .int 1, .int 0, .int 1, .int 1, .int 0]] := by rfl
theorem basis_at (T : Txt K mg A) (H : Hp) : ∃ p xs q, SqT K H A.c_BASIS [.ref p, q] ∧ SqT K H p xs ∧ RpAll K H xs (Ent.ds basisE) ∧ xs ≠ [] ∧ xs.length = 39 := by
  have h := T.y_BASIS H
  rw [basis_eq] at h
  obtain ⟨a, ys, e, s, r0⟩ := h.tup_inv
  cases e
  obtain ⟨v1, w1, rfl, h1, r1⟩ := r0.cons_inv
  obtain ⟨v2, w2, rfl, h2, r2⟩ := r1.cons_inv
  have er := RpAll.nil_inv r2
  rw [er] at s
  obtain ⟨p, xs, rfl, sp, rp⟩ := h1.tup_inv
  have hl : xs.length = 39 := rp.length.trans (by rfl)
  exact ⟨p, xs, v2, s, sp, rp, (fun z => by rw [z] at hl; cases hl), hl⟩
theorem sok {x : Str} (h : PyData.strOk x = true := by decide +kernel) {H : Hp} : Rp K H (.str x) (.str x) := .str x h
def spEnts (K : PySem.W.Frag) : Sp := fun vs H Q _ => ∃ h : Int, vs = [.int h] ∧ ∀ (r : V) (H' : Hp), Sm H H' → Rp K H' r (.tuple (Ent.ds (esOf h))) → Q r H'
theorem ok_ents (T : Txt K mg A) : FnOk P w K mg base CX0 1 A.f__law_entries A.d__law_entries ["hidden"] (spEnts K) := by
  refine T.F__law_entries.ok sc__law_entries (fun vs H Q E h => ?_) (fun cdv Ar outer s H vs Q E hr h => ?_)
  · obtain ⟨h, rfl, _⟩ := h
    rfl
  · obtain ⟨h, rfl, k⟩ := h
    refine ⟨_, (pss_cons (ps_set (i := 1) sc__law_entries.nd rfl (Or.inl rfl) (pe_tup (pa_cons pe_str (pa_cons pe_int pa_nil)))) (pss_cons (ps_set (i := 2) sc__law_entries.nd rfl (Or.inl rfl) (pe_tup (pa_cons pe_str (pa_cons pe_int pa_nil)))) (pss_cons (ps_set (i := 3) sc__law_entries.nd rfl (Or.inl rfl) (pe_tup (pa_cons pe_str (pa_cons pe_int (pa_cons (pe_tup (pa_cons (pv 1) (pa_cons (pv 2) pa_nil))) pa_nil))))) (pss_cons (ps_set (i := 4) sc__law_entries.nd rfl (Or.inl rfl) (pe_tup (pa_cons (pe_tup (pa_cons pe_str (pa_cons pe_bl pa_nil))) (pa_cons (pe_tup (pa_cons pe_str (pa_cons pe_bl pa_nil))) (pa_cons (pe_tup (pa_cons pe_str (pa_cons pe_bl pa_nil))) pa_nil))))) (pss_cons (ps_set (i := 5) sc__law_entries.nd rfl (Or.inr rfl) (pe_lst (pa_cons (pe_tup (pa_cons pe_str (pa_cons pe_str (pa_cons pe_int (pa_cons (pe_tup (pa_cons pe_str (pa_cons (pe_tup (pa_cons (pv 1) (pa_cons (pe_tup (pa_cons pe_str (pa_cons pe_int (pa_cons (pe_tup (pa_cons (pv 2) (pa_cons (pv 1) pa_nil))) pa_nil)))) pa_nil))) pa_nil))) (pa_cons (pv 3) (pa_cons pe_int (pa_cons (pv 4) pa_nil)))))))) (pa_cons (pe_tup (pa_cons pe_str (pa_cons pe_str (pa_cons pe_int (pa_cons pe_non (pa_cons (pv 3) (pa_cons pe_int (pa_cons (pv 4) pa_nil)))))))) (pa_cons (pe_tup (pa_cons pe_str (pa_cons pe_str (pa_cons pe_int (pa_cons (pv 2) (pa_cons (pv 3) (pa_cons pe_int (pa_cons (pv 4) pa_nil)))))))) pa_nil))))) (pss_one (ps_ret (pe_op op_catT (pe_ix (ixt (K := K) rfl) (pe_glob (v := .ref A.c_BASIS) rfl T.g_BASIS rfl) pe_int (fun _ _ => rfl)) (pe_tup (pa_cons (pe_tup (pa_cons pe_str (pa_cons pe_str (pa_cons (pe_callTy call_tuple_of (by rfl) T.n_tuple (by decide +kernel) (pa_cons (pe_lc (own := [("k", 6)]) (g := gName 6) rfl sc__law_entries.nd (pi_range1 rfl T.n_range (pa_cons pe_int pa_nil)) (blkOk_by (N := N__law_entries) (sc := defScope s__law_entries) (by decide +kernel)) (fun _ _ _ _ _ => (pg_name (i := 6) sc__law_entries.nd rfl (Or.inl rfl))) (fun _ _ _ _ _ => (pts_one (pt_cmpR op_ne (pv 6) (pv 0) (nomark _)))) (fun _ _ _ _ _ => (pe_ix (ixl (K := K) rfl) (pv 5) (pv 6) (fun _ _ => rfl)))) pa_nil)) pa_nil)))) pa_nil)))))))))), ?_⟩
    have S : Sm H H := Sm.refl
    refine ⟨(show 2 ≤ sizeLine by decide), fun p0 h_p0 => ?_⟩
    have s_p0 : Sm H (upd H p0 (.tup [.str "v", .int 0])) := Sm.new h_p0
    have r_p0 : Rp K (upd H p0 (.tup [.str "v", .int 0])) (.ref p0) (.tuple _) := Rp.mk upd_same (RpAll.on (.cons sok (.cons (.int _) .nil)) (KT.upd_new h_p0))
    replace S := S.sm s_p0
    clear h_p0
    clear s_p0
    generalize (upd H p0 (.tup [.str "v", .int 0])) = Hq1 at r_p0 S ⊢
    refine ⟨(show 2 ≤ sizeLine by decide), fun p1 h_p1 => ?_⟩
    have s_p1 : Sm Hq1 (upd Hq1 p1 (.tup [.str "v", .int 1])) := Sm.new h_p1
    have r_p1 : Rp K (upd Hq1 p1 (.tup [.str "v", .int 1])) (.ref p1) (.tuple _) := Rp.mk upd_same (RpAll.on (.cons sok (.cons (.int _) .nil)) (KT.upd_new h_p1))
    replace r_p0 := r_p0.on (KT.same s_p1)
    replace S := S.sm s_p1
    clear h_p1
    clear s_p1
    generalize (upd Hq1 p1 (.tup [.str "v", .int 1])) = Hq2 at r_p0 r_p1 S ⊢
    refine ⟨_, rfl, _, rfl, (show 2 ≤ sizeLine by decide), fun p2 h_p2 => ?_⟩
    have s_p2 : Sm Hq2 (upd Hq2 p2 (.tup [.ref p0, .ref p1])) := Sm.new h_p2
    have r_p2 : Rp K (upd Hq2 p2 (.tup [.ref p0, .ref p1])) (.ref p2) (.tuple _) := Rp.mk upd_same (RpAll.on (.cons r_p0 (.cons r_p1 .nil)) (KT.upd_new h_p2))
    replace r_p0 := r_p0.on (KT.same s_p2)
    replace r_p1 := r_p1.on (KT.same s_p2)
    replace S := S.sm s_p2
    clear h_p2
    clear s_p2
    generalize (upd Hq2 p2 (.tup [.ref p0, .ref p1])) = Hq3 at r_p0 r_p1 r_p2 S ⊢
    refine ⟨(show 3 ≤ sizeLine by decide), fun p3 h_p3 => ?_⟩
    have s_p3 : Sm Hq3 (upd Hq3 p3 (.tup [.str "c", .int 8, .ref p2])) := Sm.new h_p3
    have r_p3 : Rp K (upd Hq3 p3 (.tup [.str "c", .int 8, .ref p2])) (.ref p3) (.tuple _) := Rp.mk upd_same (RpAll.on (.cons sok (.cons (.int _) (.cons r_p2 .nil))) (KT.upd_new h_p3))
    replace r_p0 := r_p0.on (KT.same s_p3)
    replace r_p1 := r_p1.on (KT.same s_p3)
    replace r_p2 := r_p2.on (KT.same s_p3)
    replace S := S.sm s_p3
    clear h_p3
    clear s_p3
    generalize (upd Hq3 p3 (.tup [.str "c", .int 8, .ref p2])) = Hq4 at r_p0 r_p1 r_p2 r_p3 S ⊢
    refine ⟨(show 2 ≤ sizeLine by decide), fun f0 h_f0 => ?_⟩
    have s_f0 : Sm Hq4 (upd Hq4 f0 (.tup [.str "A", .bl true])) := Sm.new h_f0
    have r_f0 : Rp K (upd Hq4 f0 (.tup [.str "A", .bl true])) (.ref f0) (.tuple _) := Rp.mk upd_same (RpAll.on (.cons sok (.cons (.bl _) .nil)) (KT.upd_new h_f0))
    replace r_p0 := r_p0.on (KT.same s_f0)
    replace r_p1 := r_p1.on (KT.same s_f0)
    replace r_p2 := r_p2.on (KT.same s_f0)
    replace r_p3 := r_p3.on (KT.same s_f0)
    replace S := S.sm s_f0
    clear h_f0
    clear s_f0
    generalize (upd Hq4 f0 (.tup [.str "A", .bl true])) = Hq5 at r_p0 r_p1 r_p2 r_p3 r_f0 S ⊢
    refine ⟨(show 2 ≤ sizeLine by decide), fun f1 h_f1 => ?_⟩
    have s_f1 : Sm Hq5 (upd Hq5 f1 (.tup [.str "B", .bl false])) := Sm.new h_f1
    have r_f1 : Rp K (upd Hq5 f1 (.tup [.str "B", .bl false])) (.ref f1) (.tuple _) := Rp.mk upd_same (RpAll.on (.cons sok (.cons (.bl _) .nil)) (KT.upd_new h_f1))
    replace r_p0 := r_p0.on (KT.same s_f1)
    replace r_p1 := r_p1.on (KT.same s_f1)
    replace r_p2 := r_p2.on (KT.same s_f1)
    replace r_p3 := r_p3.on (KT.same s_f1)
    replace r_f0 := r_f0.on (KT.same s_f1)
    replace S := S.sm s_f1
    clear h_f1
    clear s_f1
    generalize (upd Hq5 f1 (.tup [.str "B", .bl false])) = Hq6 at r_p0 r_p1 r_p2 r_p3 r_f0 r_f1 S ⊢
    refine ⟨(show 2 ≤ sizeLine by decide), fun f2 h_f2 => ?_⟩
    have s_f2 : Sm Hq6 (upd Hq6 f2 (.tup [.str "C", .bl true])) := Sm.new h_f2
    have r_f2 : Rp K (upd Hq6 f2 (.tup [.str "C", .bl true])) (.ref f2) (.tuple _) := Rp.mk upd_same (RpAll.on (.cons sok (.cons (.bl _) .nil)) (KT.upd_new h_f2))
    replace r_p0 := r_p0.on (KT.same s_f2)
    replace r_p1 := r_p1.on (KT.same s_f2)
    replace r_p2 := r_p2.on (KT.same s_f2)
    replace r_p3 := r_p3.on (KT.same s_f2)
    replace r_f0 := r_f0.on (KT.same s_f2)
    replace r_f1 := r_f1.on (KT.same s_f2)
    replace S := S.sm s_f2
    clear h_f2
    clear s_f2
    generalize (upd Hq6 f2 (.tup [.str "C", .bl true])) = Hq7 at r_p0 r_p1 r_p2 r_p3 r_f0 r_f1 r_f2 S ⊢
    refine ⟨(show 3 ≤ sizeLine by decide), fun fm h_fm => ?_⟩
    have s_fm : Sm Hq7 (upd Hq7 fm (.tup [.ref f0, .ref f1, .ref f2])) := Sm.new h_fm
    have r_fm : Rp K (upd Hq7 fm (.tup [.ref f0, .ref f1, .ref f2])) (.ref fm) (.tuple _) := Rp.mk upd_same (RpAll.on (.cons r_f0 (.cons r_f1 (.cons r_f2 .nil))) (KT.upd_new h_fm))
    replace r_p0 := r_p0.on (KT.same s_fm)
    replace r_p1 := r_p1.on (KT.same s_fm)
    replace r_p2 := r_p2.on (KT.same s_fm)
    replace r_p3 := r_p3.on (KT.same s_fm)
    replace r_f0 := r_f0.on (KT.same s_fm)
    replace r_f1 := r_f1.on (KT.same s_fm)
    replace r_f2 := r_f2.on (KT.same s_fm)
    replace S := S.sm s_fm
    clear h_fm
    clear s_fm
    generalize (upd Hq7 fm (.tup [.ref f0, .ref f1, .ref f2])) = Hq8 at r_p0 r_p1 r_p2 r_p3 r_f0 r_f1 r_f2 r_fm S ⊢
    -- the rows
    refine ⟨_, rfl, _, rfl, _, rfl, (show 2 ≤ sizeLine by decide), fun a0 h_a0 => ?_⟩
    have s_a0 : Sm Hq8 (upd Hq8 a0 (.tup [.ref p1, .ref p0])) := Sm.new h_a0
    have r_a0 : Rp K (upd Hq8 a0 (.tup [.ref p1, .ref p0])) (.ref a0) (.tuple _) := Rp.mk upd_same (RpAll.on (.cons r_p1 (.cons r_p0 .nil)) (KT.upd_new h_a0))
    replace r_p0 := r_p0.on (KT.same s_a0)
    replace r_p1 := r_p1.on (KT.same s_a0)
    replace r_p2 := r_p2.on (KT.same s_a0)
    replace r_p3 := r_p3.on (KT.same s_a0)
    replace r_f0 := r_f0.on (KT.same s_a0)
    replace r_f1 := r_f1.on (KT.same s_a0)
    replace r_f2 := r_f2.on (KT.same s_a0)
    replace r_fm := r_fm.on (KT.same s_a0)
    replace S := S.sm s_a0
    clear h_a0
    clear s_a0
    generalize (upd Hq8 a0 (.tup [.ref p1, .ref p0])) = Hq9 at r_p0 r_p1 r_p2 r_p3 r_f0 r_f1 r_f2 r_fm r_a0 S ⊢
    refine ⟨(show 3 ≤ sizeLine by decide), fun a1 h_a1 => ?_⟩
    have s_a1 : Sm Hq9 (upd Hq9 a1 (.tup [.str "c", .int 8, .ref a0])) := Sm.new h_a1
    have r_a1 : Rp K (upd Hq9 a1 (.tup [.str "c", .int 8, .ref a0])) (.ref a1) (.tuple _) := Rp.mk upd_same (RpAll.on (.cons sok (.cons (.int _) (.cons r_a0 .nil))) (KT.upd_new h_a1))
    replace r_p0 := r_p0.on (KT.same s_a1)
    replace r_p1 := r_p1.on (KT.same s_a1)
    replace r_p2 := r_p2.on (KT.same s_a1)
    replace r_p3 := r_p3.on (KT.same s_a1)
    replace r_f0 := r_f0.on (KT.same s_a1)
    replace r_f1 := r_f1.on (KT.same s_a1)
    replace r_f2 := r_f2.on (KT.same s_a1)
    replace r_fm := r_fm.on (KT.same s_a1)
    replace r_a0 := r_a0.on (KT.same s_a1)
    replace S := S.sm s_a1
    clear h_a1
    clear s_a1
    generalize (upd Hq9 a1 (.tup [.str "c", .int 8, .ref a0])) = Hq10 at r_p0 r_p1 r_p2 r_p3 r_f0 r_f1 r_f2 r_fm r_a0 r_a1 S ⊢
    refine ⟨(show 2 ≤ sizeLine by decide), fun a2 h_a2 => ?_⟩
    have s_a2 : Sm Hq10 (upd Hq10 a2 (.tup [.ref p0, .ref a1])) := Sm.new h_a2
    have r_a2 : Rp K (upd Hq10 a2 (.tup [.ref p0, .ref a1])) (.ref a2) (.tuple _) := Rp.mk upd_same (RpAll.on (.cons r_p0 (.cons r_a1 .nil)) (KT.upd_new h_a2))
    replace r_p0 := r_p0.on (KT.same s_a2)
    replace r_p1 := r_p1.on (KT.same s_a2)
    replace r_p2 := r_p2.on (KT.same s_a2)
    replace r_p3 := r_p3.on (KT.same s_a2)
    replace r_f0 := r_f0.on (KT.same s_a2)
    replace r_f1 := r_f1.on (KT.same s_a2)
    replace r_f2 := r_f2.on (KT.same s_a2)
    replace r_fm := r_fm.on (KT.same s_a2)
    replace r_a0 := r_a0.on (KT.same s_a2)
    replace r_a1 := r_a1.on (KT.same s_a2)
    replace S := S.sm s_a2
    clear h_a2
    clear s_a2
    generalize (upd Hq10 a2 (.tup [.ref p0, .ref a1])) = Hq11 at r_p0 r_p1 r_p2 r_p3 r_f0 r_f1 r_f2 r_fm r_a0 r_a1 r_a2 S ⊢
    refine ⟨(show 2 ≤ sizeLine by decide), fun a3 h_a3 => ?_⟩
    have s_a3 : Sm Hq11 (upd Hq11 a3 (.tup [.str "t", .ref a2])) := Sm.new h_a3
    have r_a3 : Rp K (upd Hq11 a3 (.tup [.str "t", .ref a2])) (.ref a3) (.tuple _) := Rp.mk upd_same (RpAll.on (.cons sok (.cons r_a2 .nil)) (KT.upd_new h_a3))
    replace r_p0 := r_p0.on (KT.same s_a3)
    replace r_p1 := r_p1.on (KT.same s_a3)
    replace r_p2 := r_p2.on (KT.same s_a3)
    replace r_p3 := r_p3.on (KT.same s_a3)
    replace r_f0 := r_f0.on (KT.same s_a3)
    replace r_f1 := r_f1.on (KT.same s_a3)
    replace r_f2 := r_f2.on (KT.same s_a3)
    replace r_fm := r_fm.on (KT.same s_a3)
    replace r_a0 := r_a0.on (KT.same s_a3)
    replace r_a1 := r_a1.on (KT.same s_a3)
    replace r_a2 := r_a2.on (KT.same s_a3)
    replace S := S.sm s_a3
    clear h_a3
    clear s_a3
    generalize (upd Hq11 a3 (.tup [.str "t", .ref a2])) = Hq12 at r_p0 r_p1 r_p2 r_p3 r_f0 r_f1 r_f2 r_fm r_a0 r_a1 r_a2 r_a3 S ⊢
    refine ⟨_, rfl, _, rfl, (show 7 ≤ sizeLine by decide), fun ra h_ra => ?_⟩
    have s_ra : Sm Hq12 (upd Hq12 ra (.tup [.str "con", .str "A", .int 2, .ref a3, .ref p3, .int 0, .ref fm])) := Sm.new h_ra
    have r_ra : Rp K (upd Hq12 ra (.tup [.str "con", .str "A", .int 2, .ref a3, .ref p3, .int 0, .ref fm])) (.ref ra) (.tuple _) := Rp.mk upd_same (RpAll.on (.cons sok (.cons sok (.cons (.int _) (.cons r_a3 (.cons r_p3 (.cons (.int _) (.cons r_fm .nil))))))) (KT.upd_new h_ra))
    replace r_p0 := r_p0.on (KT.same s_ra)
    replace r_p1 := r_p1.on (KT.same s_ra)
    replace r_p2 := r_p2.on (KT.same s_ra)
    replace r_p3 := r_p3.on (KT.same s_ra)
    replace r_f0 := r_f0.on (KT.same s_ra)
    replace r_f1 := r_f1.on (KT.same s_ra)
    replace r_f2 := r_f2.on (KT.same s_ra)
    replace r_fm := r_fm.on (KT.same s_ra)
    replace r_a0 := r_a0.on (KT.same s_ra)
    replace r_a1 := r_a1.on (KT.same s_ra)
    replace r_a2 := r_a2.on (KT.same s_ra)
    replace r_a3 := r_a3.on (KT.same s_ra)
    replace S := S.sm s_ra
    clear h_ra
    clear s_ra
    generalize (upd Hq12 ra (.tup [.str "con", .str "A", .int 2, .ref a3, .ref p3, .int 0, .ref fm])) = Hq13 at r_p0 r_p1 r_p2 r_p3 r_f0 r_f1 r_f2 r_fm r_a0 r_a1 r_a2 r_a3 r_ra S ⊢
    refine ⟨_, rfl, _, rfl, (show 7 ≤ sizeLine by decide), fun rb h_rb => ?_⟩
    have s_rb : Sm Hq13 (upd Hq13 rb (.tup [.str "con", .str "B", .int 2, .non, .ref p3, .int 1, .ref fm])) := Sm.new h_rb
    have r_rb : Rp K (upd Hq13 rb (.tup [.str "con", .str "B", .int 2, .non, .ref p3, .int 1, .ref fm])) (.ref rb) (.tuple _) := Rp.mk upd_same (RpAll.on (.cons sok (.cons sok (.cons (.int _) (.cons .non (.cons r_p3 (.cons (.int _) (.cons r_fm .nil))))))) (KT.upd_new h_rb))
    replace r_p0 := r_p0.on (KT.same s_rb)
    replace r_p1 := r_p1.on (KT.same s_rb)
    replace r_p2 := r_p2.on (KT.same s_rb)
    replace r_p3 := r_p3.on (KT.same s_rb)
    replace r_f0 := r_f0.on (KT.same s_rb)
    replace r_f1 := r_f1.on (KT.same s_rb)
    replace r_f2 := r_f2.on (KT.same s_rb)
    replace r_fm := r_fm.on (KT.same s_rb)
    replace r_a0 := r_a0.on (KT.same s_rb)
    replace r_a1 := r_a1.on (KT.same s_rb)
    replace r_a2 := r_a2.on (KT.same s_rb)
    replace r_a3 := r_a3.on (KT.same s_rb)
    replace r_ra := r_ra.on (KT.same s_rb)
    replace S := S.sm s_rb
    clear h_rb
    clear s_rb
    generalize (upd Hq13 rb (.tup [.str "con", .str "B", .int 2, .non, .ref p3, .int 1, .ref fm])) = Hq14 at r_p0 r_p1 r_p2 r_p3 r_f0 r_f1 r_f2 r_fm r_a0 r_a1 r_a2 r_a3 r_ra r_rb S ⊢
    refine ⟨_, rfl, _, rfl, _, rfl, (show 7 ≤ sizeLine by decide), fun rc h_rc => ?_⟩
    have s_rc : Sm Hq14 (upd Hq14 rc (.tup [.str "con", .str "C", .int 2, .ref p1, .ref p3, .int 2, .ref fm])) := Sm.new h_rc
    have r_rc : Rp K (upd Hq14 rc (.tup [.str "con", .str "C", .int 2, .ref p1, .ref p3, .int 2, .ref fm])) (.ref rc) (.tuple _) := Rp.mk upd_same (RpAll.on (.cons sok (.cons sok (.cons (.int _) (.cons r_p1 (.cons r_p3 (.cons (.int _) (.cons r_fm .nil))))))) (KT.upd_new h_rc))
    replace r_p0 := r_p0.on (KT.same s_rc)
    replace r_p1 := r_p1.on (KT.same s_rc)
    replace r_p2 := r_p2.on (KT.same s_rc)
    replace r_p3 := r_p3.on (KT.same s_rc)
    replace r_f0 := r_f0.on (KT.same s_rc)
    replace r_f1 := r_f1.on (KT.same s_rc)
    replace r_f2 := r_f2.on (KT.same s_rc)
    replace r_fm := r_fm.on (KT.same s_rc)
    replace r_a0 := r_a0.on (KT.same s_rc)
    replace r_a1 := r_a1.on (KT.same s_rc)
    replace r_a2 := r_a2.on (KT.same s_rc)
    replace r_a3 := r_a3.on (KT.same s_rc)
    replace r_ra := r_ra.on (KT.same s_rc)
    replace r_rb := r_rb.on (KT.same s_rc)
    replace S := S.sm s_rc
    clear h_rc
    clear s_rc
    generalize (upd Hq14 rc (.tup [.str "con", .str "C", .int 2, .ref p1, .ref p3, .int 2, .ref fm])) = Hq15 at r_p0 r_p1 r_p2 r_p3 r_f0 r_f1 r_f2 r_fm r_a0 r_a1 r_a2 r_a3 r_ra r_rb r_rc S ⊢
    refine ⟨(show 3 ≤ sizeLine by decide), fun L h_L => ?_⟩
    have s_L : Sm Hq15 (upd Hq15 L (.lst [.ref ra, .ref rb, .ref rc])) := Sm.new h_L
    have o_L : (upd Hq15 L (.lst [.ref ra, .ref rb, .ref rc])) L = some (.lst [.ref ra, .ref rb, .ref rc]) := upd_same
    replace r_p0 := r_p0.on (KT.same s_L)
    replace r_p1 := r_p1.on (KT.same s_L)
    replace r_p2 := r_p2.on (KT.same s_L)
    replace r_p3 := r_p3.on (KT.same s_L)
    replace r_f0 := r_f0.on (KT.same s_L)
    replace r_f1 := r_f1.on (KT.same s_L)
    replace r_f2 := r_f2.on (KT.same s_L)
    replace r_fm := r_fm.on (KT.same s_L)
    replace r_a0 := r_a0.on (KT.same s_L)
    replace r_a1 := r_a1.on (KT.same s_L)
    replace r_a2 := r_a2.on (KT.same s_L)
    replace r_a3 := r_a3.on (KT.same s_L)
    replace r_ra := r_ra.on (KT.same s_L)
    replace r_rb := r_rb.on (KT.same s_L)
    replace r_rc := r_rc.on (KT.same s_L)
    replace S := S.sm s_L
    clear h_L
    clear s_L
    generalize (upd Hq15 L (.lst [.ref ra, .ref rb, .ref rc])) = Hq16 at r_p0 r_p1 r_p2 r_p3 r_f0 r_f1 r_f2 r_fm r_a0 r_a1 r_a2 r_a3 r_ra r_rb r_rc o_L S ⊢
    obtain ⟨bp, bxs, bq, hB, hbp, hbx, bne, bln⟩ := basis_at T Hq16
    refine ⟨A.c_BASIS, _, _, _, rfl, rfl, hB, at0, 3, rfl, by decide, by decide, fun D hD => ?_⟩
    have rw3 : ∀ i : Nat, i < 3 → ∃ (v : Addr) (r : Row), [rowA, rowB, rowC][i]? = some r ∧ [V.ref ra, V.ref rb, V.ref rc][i]? = some (V.ref v) ∧ Rp K Hq16 (.ref v) r.d := fun i hi => by
      match i, hi with
      | 0, _ => exact ⟨ra, rowA, rfl, rfl, r_ra⟩
      | 1, _ => exact ⟨rb, rowB, rfl, rfl, r_rb⟩
      | 2, _ => exact ⟨rc, rowC, rfl, rfl, r_rc⟩
    refine lc_range (lo := 0) (n := (3 : Int).toNat) (fun i H' => Sm Hq16 H' ∧ ∃ acc : List V, acc.length ≤ i ∧ H' D = some (.lst acc) ∧ RpAll K H' acc (Ent.ds (((List.range i).filter fun k : Nat => decide ((k : Int) ≠ h)).map fun k => Ent.con ([rowA, rowB, rowC].getD k rowA)))) ?_ ?_ ?_
    · exact ⟨Sm.new hD, [], Nat.le_refl _, upd_same, .nil⟩
    · rintro i H' hi ⟨s1, acc, hal, hacc, hra⟩
      have hi3 : i < 3 := hi
      obtain ⟨v, r, er, ev, hv⟩ := rw3 i hi3
      refine ⟨rfl, ?_⟩
      refine ⟨_, rfl, _, rfl, rfl, _, rfl, ?_⟩
      rw [dec_i]
      have efil : (((List.range (i + 1)).filter fun k : Nat => decide ((k : Int) ≠ h)).map fun k => Ent.con ([rowA, rowB, rowC].getD k rowA)) = (((List.range i).filter fun k : Nat => decide ((k : Int) ≠ h)).map fun k => Ent.con ([rowA, rowB, rowC].getD k rowA)) ++ (if (0 + (i : Int)) = h then [] else [Ent.con r]) := by
        rw [List.range_succ, List.filter_append, List.map_append]
        congr 1
        have eg : ([rowA, rowB, rowC][i]?).getD rowA = r := by
          rw [er]
          rfl
        by_cases c : (i : Int) = h
        · simp [c]
        · simp [c, eg]
      rw [efil]
      by_cases c : (0 + (i : Int)) = h
      · rw [if_pos c, decide_eq_true c, List.append_nil]
        exact iteF (A := _) ⟨s1, acc, by omega, hacc, hra⟩
      · rw [if_neg c, decide_eq_false c]
        refine iteT (B := _) ?_
        have kt : KT H' (upd H' D (.lst (acc ++ [.ref v]))) := KT.upd_lst (NT.lst hacc)
        refine ⟨_, rfl, _, rfl, L, _, _, _, rfl, rfl, SqL.of (s1 _ _ o_L), (by rw [Int.zero_add]; exact atI_nat ev), acc, hacc, small_lt (by omega), s1.upd hD, acc ++ [.ref v], by simp; omega, upd_same, ?_⟩
        rw [eds_map, List.map_append, ← eds_map]
        exact RpAll.app (hra.on kt) (.cons ((hv.on (KT.same s1)).on kt) .nil)
    · rintro H' ⟨s1, acc, hal, hacc, hra⟩
      have eown : (((List.range (3 : Int).toNat).filter fun k : Nat => decide ((k : Int) ≠ h)).map fun k => Ent.con ([rowA, rowB, rowC].getD k rowA)) = own h := by
        unfold own
        by_cases c0 : h = 0
        · subst c0; rfl
        · by_cases c1 : h = 1
          · subst c1; rfl
          · by_cases c2 : h = 2
            · subst c2; rfl
            · rw [if_neg c0, if_neg c1, if_neg c2]
              have n0 : ((0 : Nat) : Int) ≠ h := fun z => c0 (by omega)
              have n1 : ((1 : Nat) : Int) ≠ h := fun z => c1 (by omega)
              have n2 : ((2 : Nat) : Int) ≠ h := fun z => c2 (by omega)
              show (List.filter _ [0, 1, 2]).map _ = _
              simp only [List.filter, n0, n1, n2, ne_eq, not_false_eq_true, decide_true, List.map]
              rfl
      rw [eown] at hra
      replace r_p0 := r_p0.on (KT.same s1)
      replace r_p1 := r_p1.on (KT.same s1)
      replace r_p2 := r_p2.on (KT.same s1)
      replace r_p3 := r_p3.on (KT.same s1)
      replace r_f0 := r_f0.on (KT.same s1)
      replace r_f1 := r_f1.on (KT.same s1)
      replace r_f2 := r_f2.on (KT.same s1)
      replace r_fm := r_fm.on (KT.same s1)
      replace r_a0 := r_a0.on (KT.same s1)
      replace r_a1 := r_a1.on (KT.same s1)
      replace r_a2 := r_a2.on (KT.same s1)
      replace r_a3 := r_a3.on (KT.same s1)
      replace r_ra := r_ra.on (KT.same s1)
      replace r_rb := r_rb.on (KT.same s1)
      replace r_rc := r_rc.on (KT.same s1)
      replace o_L := s1 _ _ o_L
      replace hbp := (KT.same s1).sqt hbp
      replace hbx := hbx.on (KT.same s1)
      replace S := S.sm s1
      refine ⟨D, _, rfl, .inl ⟨SqL.of hacc, fun t h_t => ?_⟩⟩
      have r_t : Rp K (upd H' t (.tup acc)) (.ref t) (.tuple (Ent.ds (own h))) := Rp.mk upd_same (hra.on (KT.upd_new h_t))
      have s_t : Sm H' (upd H' t (.tup acc)) := Sm.new h_t
      replace r_p0 := r_p0.on (KT.same s_t)
      replace r_p1 := r_p1.on (KT.same s_t)
      replace r_p2 := r_p2.on (KT.same s_t)
      replace r_p3 := r_p3.on (KT.same s_t)
      replace r_f0 := r_f0.on (KT.same s_t)
      replace r_f1 := r_f1.on (KT.same s_t)
      replace r_f2 := r_f2.on (KT.same s_t)
      replace r_fm := r_fm.on (KT.same s_t)
      replace r_a0 := r_a0.on (KT.same s_t)
      replace r_a1 := r_a1.on (KT.same s_t)
      replace r_a2 := r_a2.on (KT.same s_t)
      replace r_a3 := r_a3.on (KT.same s_t)
      replace r_ra := r_ra.on (KT.same s_t)
      replace r_rb := r_rb.on (KT.same s_t)
      replace r_rc := r_rc.on (KT.same s_t)
      replace o_L := s_t _ _ o_L
      replace hbp := (KT.same s_t).sqt hbp
      replace hbx := hbx.on (KT.same s_t)
      replace S := S.sm s_t
      generalize (upd H' t (.tup acc)) = Hz at *
      refine ⟨(show 3 ≤ sizeLine by decide), fun m0 h_m0 => ?_⟩
      have s_m0 : Sm Hz (upd Hz m0 (.tup [.str "module", .str "M", .ref t])) := Sm.new h_m0
      have r_m0 : Rp K (upd Hz m0 (.tup [.str "module", .str "M", .ref t])) (.ref m0) (.tuple _) := Rp.mk upd_same (RpAll.on (.cons sok (.cons sok (.cons r_t .nil))) (KT.upd_new h_m0))
      replace r_p0 := r_p0.on (KT.same s_m0)
      replace r_p1 := r_p1.on (KT.same s_m0)
      replace r_p2 := r_p2.on (KT.same s_m0)
      replace r_p3 := r_p3.on (KT.same s_m0)
      replace r_f0 := r_f0.on (KT.same s_m0)
      replace r_f1 := r_f1.on (KT.same s_m0)
      replace r_f2 := r_f2.on (KT.same s_m0)
      replace r_fm := r_fm.on (KT.same s_m0)
      replace r_a0 := r_a0.on (KT.same s_m0)
      replace r_a1 := r_a1.on (KT.same s_m0)
      replace r_a2 := r_a2.on (KT.same s_m0)
      replace r_a3 := r_a3.on (KT.same s_m0)
      replace r_ra := r_ra.on (KT.same s_m0)
      replace r_rb := r_rb.on (KT.same s_m0)
      replace r_rc := r_rc.on (KT.same s_m0)
      replace o_L := s_m0 _ _ o_L
      replace hbp := (KT.same s_m0).sqt hbp
      replace hbx := hbx.on (KT.same s_m0)
      replace r_t := r_t.on (KT.same s_m0)
      replace S := S.sm s_m0
      clear h_m0
      clear s_m0
      generalize (upd Hz m0 (.tup [.str "module", .str "M", .ref t])) = Hq17 at r_p0 r_p1 r_p2 r_p3 r_f0 r_f1 r_f2 r_fm r_a0 r_a1 r_a2 r_a3 r_ra r_rb r_rc o_L hbp hbx r_t r_m0 S ⊢
      refine ⟨(show 1 ≤ sizeLine by decide), fun m1 h_m1 => ?_⟩
      have s_m1 : Sm Hq17 (upd Hq17 m1 (.tup [.ref m0])) := Sm.new h_m1
      have r_m1 : Rp K (upd Hq17 m1 (.tup [.ref m0])) (.ref m1) (.tuple _) := Rp.mk upd_same (RpAll.on (.cons r_m0 .nil) (KT.upd_new h_m1))
      replace r_p0 := r_p0.on (KT.same s_m1)
      replace r_p1 := r_p1.on (KT.same s_m1)
      replace r_p2 := r_p2.on (KT.same s_m1)
      replace r_p3 := r_p3.on (KT.same s_m1)
      replace r_f0 := r_f0.on (KT.same s_m1)
      replace r_f1 := r_f1.on (KT.same s_m1)
      replace r_f2 := r_f2.on (KT.same s_m1)
      replace r_fm := r_fm.on (KT.same s_m1)
      replace r_a0 := r_a0.on (KT.same s_m1)
      replace r_a1 := r_a1.on (KT.same s_m1)
      replace r_a2 := r_a2.on (KT.same s_m1)
      replace r_a3 := r_a3.on (KT.same s_m1)
      replace r_ra := r_ra.on (KT.same s_m1)
      replace r_rb := r_rb.on (KT.same s_m1)
      replace r_rc := r_rc.on (KT.same s_m1)
      replace o_L := s_m1 _ _ o_L
      replace hbp := (KT.same s_m1).sqt hbp
      replace hbx := hbx.on (KT.same s_m1)
      replace r_t := r_t.on (KT.same s_m1)
      replace r_m0 := r_m0.on (KT.same s_m1)
      replace S := S.sm s_m1
      clear h_m1
      clear s_m1
      generalize (upd Hq17 m1 (.tup [.ref m0])) = Hq18 at r_p0 r_p1 r_p2 r_p3 r_f0 r_f1 r_f2 r_fm r_a0 r_a1 r_a2 r_a3 r_ra r_rb r_rc o_L hbp hbx r_t r_m0 r_m1 S ⊢
      obtain ⟨m1', ys, e, sq, ry⟩ := r_m1.tup_inv
      cases e
      have hyl : ys.length = 1 := ry.length
      refine ⟨bp, m1, bxs, ys, rfl, rfl, hbp, sq, bne, (by rw [bln, hyl]; exact small_le (show 39 + 1 ≤ 100000 by decide)), (fun z => by rw [z] at hyl; cases hyl), fun _ q hq => ?_⟩
      refine k _ _ (S.sm (Sm.new hq)) ?_
      have e1 : Ent.ds (esOf h) = Ent.ds basisE ++ [PyData.tuple [.str "module", .str "M", .tuple (Ent.ds (own h))]] := by
        unfold esOf
        rw [eds_map, List.map_append, ← eds_map]
        rfl
      rw [e1]
      exact Rp.mk upd_same ((hbx.app ry).on (KT.upd_new hq))
end
end K88

set_option Elab.async false
set_option maxRecDepth 100000
set_option linter.all false
set_option maxHeartbeats 40000000
namespace K88
open PySem L2 GD AG
section
variable {P : Program} {w : World} {K : PySem.W.Frag} {mg : Str → Option Value} {base : Heap} {A : Adr}
/-- but for the box, more -/
def Bs (b c : Addr) (H H' : Hp) : Prop := ∀ a o, a ≠ b → a ≠ c → H a = some o → H' a = some o
theorem Bs.refl {b c : Addr} {H : Hp} : Bs b c H H := fun _ _ _ _ e => e
theorem Bs.trans {b c : Addr} {H H1 H2 : Hp} (h : Bs b c H H1) (k : Bs b c H1 H2) : Bs b c H H2 := fun a o n1 n2 e => k a o n1 n2 (h a o n1 n2 e)
theorem Bs.sm {b c : Addr} {H H1 H2 : Hp} (h : Bs b c H H1) (k : Sm H1 H2) : Bs b c H H2 := fun a o n1 n2 e => k a o (h a o n1 n2 e)
theorem Bs.bx {b c : Addr} {H H1 H2 : Hp} (h : Bs b c H H1) (k : Bx b c H1 H2) : Bs b c H H2 := fun a o n1 n2 e => (k a n1 n2).trans (h a o n1 n2 e)
theorem Bs.of {b c : Addr} {H H' : Hp} (k : Bx b c H H') : Bs b c H H' := fun a o n1 n2 e => (k a n1 n2).trans e
theorem BoxAt.off2 {H : Hp} {b c L p q : Addr} {xs : List V} (h : BoxAt H b c) (e : H L = some (.lst (.ref p :: .ref q :: xs))) : L ≠ b ∧ L ≠ c := by
  obtain ⟨ns, n, m, k, h1, h2, _⟩ := h
  refine ⟨ne_of e h1 (fun z => by cases z), ne_of e h2 fun z => ?_⟩
  cases ns with
  | nil => cases z
  | cons x r => cases z
theorem BoxAt.kts {H H' : Hp} {b c : Addr} (h : BoxAt H b c) (k : Bs b c H H') : KT H H' := by
  obtain ⟨ns, n, m, k0, h1, h2, h3⟩ := h
  intro a xs q
  have n1 : a ≠ b := fun z => NT.lst h1 xs (by rw [z] at q; exact q)
  have n2 : a ≠ c := fun z => NT.lst h2 xs (by rw [z] at q; exact q)
  rcases q with q | ⟨o, q⟩
  · exact .inl (k _ _ n1 n2 q)
  · exact .inr ⟨o, k _ _ n1 n2 q⟩
def spShape (K : PySem.W.Frag) (n : Nat) : Sp := fun vs H Q _ => ∃ (b c : Addr) (d : Int), vs = [.ref b, .int d] ∧ d = (n : Int) ∧ BoxAt H b c ∧ ∀ (r : V) (sh : Sh) (H' : Hp), Bs b c H H' → BoxAt H' b c → Rp K H' r sh.d → GS n sh → Q r H'
def spShapeR (K : PySem.W.Frag) : Nat → Sp
  | 0 => fun _ _ _ _ => False
  | n + 1 => spShape K n
theorem shape_step (T : Txt K mg A) (n : Nat) (G__law_shape : FnOk P w K mg base CX0 (n + 2) A.f__law_shape A.d__law_shape ["box", "deep"] (spShapeR K n)) : FnOk P w K mg base CX0 (n + 3) A.f__law_shape A.d__law_shape ["box", "deep"] (spShape K n) := by
  have G__law_draw : FnOk P w K mg base CX0 2 A.f__law_draw A.d__law_draw _ _ := ok__law_draw T
  refine T.F__law_shape.ok (k := n + 2) sc__law_shape (fun vs H Q E h => ?_) (fun cdv Ar outer s H vs Q E hr h => ?_)
  · obtain ⟨b, c, d, rfl, _⟩ := h
    rfl
  · obtain ⟨b, c, d, rfl, hd, hB, k⟩ := h
    refine ⟨_, (pss_cons (ps_set (i := 2) sc__law_shape.nd rfl (Or.inl rfl) (pe_call G__law_draw (hr.mono (by first | decide | omega)) rfl T.g__law_draw T.F__law_draw.kp T.b__law_draw .nil pass0 (pa_cons (pv 0) (pa_cons pe_int pa_nil)))) (pss_cons (ps_if (PW.pt (pw_or (pt_cmpR op_lt (pv 2) pe_int (nomark _)) (pw_or1 (pt_cmpR op_eq (pv 1) pe_int (nomark _))))) (pss_one (ps_ret (pe_ix (ixl (K := K) rfl) (pe_lst (pa_cons (pe_tup (pa_cons pe_str (pa_cons pe_int (pa_cons (pe_tup pa_nil) pa_nil)))) (pa_cons (pe_tup (pa_cons pe_str (pa_cons pe_int (pa_cons (pe_tup pa_nil) pa_nil)))) (pa_cons (pe_tup (pa_cons pe_str (pa_cons pe_int (pa_cons (pe_tup pa_nil) pa_nil)))) (pa_cons (pe_tup (pa_cons pe_str (pa_cons pe_int (pa_cons (pe_tup pa_nil) pa_nil)))) (pa_cons (pe_tup (pa_cons pe_str (pa_cons pe_int (pa_cons (pe_tup pa_nil) pa_nil)))) pa_nil)))))) (pe_call G__law_draw (hr.mono (by first | decide | omega)) rfl T.g__law_draw T.F__law_draw.kp T.b__law_draw .nil pass0 (pa_cons (pv 0) (pa_cons pe_int pa_nil))) (fun _ _ => rfl)))) pss_nil) (pss_cons (ps_set (i := 3) sc__law_shape.nd rfl (Or.inl rfl) (pe_call G__law_shape (hr.mono (by first | decide | omega)) rfl T.g__law_shape T.F__law_shape.kp T.b__law_shape .nil pass0 (pa_cons (pv 0) (pa_cons (pe_op op_sub (pv 1) pe_int) pa_nil)))) (pss_cons (ps_if (pt_cmpR op_lt (pv 2) pe_int (nomark _)) (pss_one (ps_ret (pe_tup (pa_cons pe_str (pa_cons (pe_ix (ixl (K := K) rfl) (pe_lst (pa_cons pe_int (pa_cons pe_int (pa_cons pe_int pa_nil)))) (pe_op op_sub (pv 2) pe_int) (fun _ _ => rfl)) (pa_cons (pe_tup (pa_cons (pv 3) pa_nil)) pa_nil)))))) pss_nil) (pss_cons (ps_set (i := 4) sc__law_shape.nd rfl (Or.inl rfl) (pe_call G__law_shape (hr.mono (by first | decide | omega)) rfl T.g__law_shape T.F__law_shape.kp T.b__law_shape .nil pass0 (pa_cons (pv 0) (pa_cons (pe_op op_sub (pv 1) pe_int) pa_nil)))) (pss_cons (ps_if (pt_cmpR op_eq (pv 2) pe_int (nomark _)) (pss_one (ps_ret (pe_tup (pa_cons pe_str (pa_cons (pe_tup (pa_cons (pv 3) (pa_cons (pv 4) pa_nil))) pa_nil))))) pss_nil) (pss_one (ps_ret (pe_ix (ixl (K := K) rfl) (pe_lst (pa_cons (pe_tup (pa_cons pe_str (pa_cons (pv 3) (pa_cons (pv 4) pa_nil)))) (pa_cons (pe_tup (pa_cons pe_str (pa_cons pe_int (pa_cons (pe_tup (pa_cons (pv 3) (pa_cons (pv 4) pa_nil))) pa_nil)))) pa_nil))) (pe_op op_sub (pv 2) pe_int) (fun _ _ => rfl)))))))))), ?_⟩
    have S : Bs b c H H := .refl
    refine ⟨_, rfl, b, c, 10, rfl, by decide, by decide, hB, fun kd H1 kd0 kd1 hx1 hB1 => ?_⟩
    replace S := S.bx hx1
    replace hB := hB1
    refine ⟨_, rfl, _, _, rfl, rfl, _, rfl, ?_⟩
    by_cases h4 : kd < 4
    · rw [decide_eq_true h4]
      refine iteT (B := _) (iteT (B := _) ?_)
      refine ⟨Nat.zero_le _, fun e0 h_e0 => ?_⟩
      have s_e0 : Sm H1 (upd H1 e0 (.tup [])) := Sm.new h_e0
      have r_e0 : Rp K (upd H1 e0 (.tup [])) (.ref e0) (.tuple _) := Rp.mk upd_same (RpAll.on (.nil) (KT.upd_new h_e0))
      replace hB := hB.keep fun a o e _ => s_e0 a o e
      replace S := S.sm s_e0
      clear h_e0
      clear s_e0
      generalize (upd H1 e0 (.tup [])) = Hq1 at hB r_e0 S ⊢
      refine ⟨(show 3 ≤ sizeLine by decide), fun s0 h_s0 => ?_⟩
      have s_s0 : Sm Hq1 (upd Hq1 s0 (.tup [.str "c", .int 0, .ref e0])) := Sm.new h_s0
      have r_s0 : Rp K (upd Hq1 s0 (.tup [.str "c", .int 0, .ref e0])) (.ref s0) (.tuple _) := Rp.mk upd_same (RpAll.on (.cons sok (.cons (.int _) (.cons r_e0 .nil))) (KT.upd_new h_s0))
      replace hB := hB.keep fun a o e _ => s_s0 a o e
      replace r_e0 := r_e0.on (KT.same s_s0)
      replace S := S.sm s_s0
      clear h_s0
      clear s_s0
      generalize (upd Hq1 s0 (.tup [.str "c", .int 0, .ref e0])) = Hq2 at hB r_e0 r_s0 S ⊢
      refine ⟨Nat.zero_le _, fun e1 h_e1 => ?_⟩
      have s_e1 : Sm Hq2 (upd Hq2 e1 (.tup [])) := Sm.new h_e1
      have r_e1 : Rp K (upd Hq2 e1 (.tup [])) (.ref e1) (.tuple _) := Rp.mk upd_same (RpAll.on (.nil) (KT.upd_new h_e1))
      replace hB := hB.keep fun a o e _ => s_e1 a o e
      replace r_e0 := r_e0.on (KT.same s_e1)
      replace r_s0 := r_s0.on (KT.same s_e1)
      replace S := S.sm s_e1
      clear h_e1
      clear s_e1
      generalize (upd Hq2 e1 (.tup [])) = Hq3 at hB r_e0 r_s0 r_e1 S ⊢
      refine ⟨(show 3 ≤ sizeLine by decide), fun s1 h_s1 => ?_⟩
      have s_s1 : Sm Hq3 (upd Hq3 s1 (.tup [.str "c", .int 1, .ref e1])) := Sm.new h_s1
      have r_s1 : Rp K (upd Hq3 s1 (.tup [.str "c", .int 1, .ref e1])) (.ref s1) (.tuple _) := Rp.mk upd_same (RpAll.on (.cons sok (.cons (.int _) (.cons r_e1 .nil))) (KT.upd_new h_s1))
      replace hB := hB.keep fun a o e _ => s_s1 a o e
      replace r_e0 := r_e0.on (KT.same s_s1)
      replace r_s0 := r_s0.on (KT.same s_s1)
      replace r_e1 := r_e1.on (KT.same s_s1)
      replace S := S.sm s_s1
      clear h_s1
      clear s_s1
      generalize (upd Hq3 s1 (.tup [.str "c", .int 1, .ref e1])) = Hq4 at hB r_e0 r_s0 r_e1 r_s1 S ⊢
      refine ⟨Nat.zero_le _, fun e2 h_e2 => ?_⟩
      have s_e2 : Sm Hq4 (upd Hq4 e2 (.tup [])) := Sm.new h_e2
      have r_e2 : Rp K (upd Hq4 e2 (.tup [])) (.ref e2) (.tuple _) := Rp.mk upd_same (RpAll.on (.nil) (KT.upd_new h_e2))
      replace hB := hB.keep fun a o e _ => s_e2 a o e
      replace r_e0 := r_e0.on (KT.same s_e2)
      replace r_s0 := r_s0.on (KT.same s_e2)
      replace r_e1 := r_e1.on (KT.same s_e2)
      replace r_s1 := r_s1.on (KT.same s_e2)
      replace S := S.sm s_e2
      clear h_e2
      clear s_e2
      generalize (upd Hq4 e2 (.tup [])) = Hq5 at hB r_e0 r_s0 r_e1 r_s1 r_e2 S ⊢
      refine ⟨(show 3 ≤ sizeLine by decide), fun s2 h_s2 => ?_⟩
      have s_s2 : Sm Hq5 (upd Hq5 s2 (.tup [.str "c", .int 4, .ref e2])) := Sm.new h_s2
      have r_s2 : Rp K (upd Hq5 s2 (.tup [.str "c", .int 4, .ref e2])) (.ref s2) (.tuple _) := Rp.mk upd_same (RpAll.on (.cons sok (.cons (.int _) (.cons r_e2 .nil))) (KT.upd_new h_s2))
      replace hB := hB.keep fun a o e _ => s_s2 a o e
      replace r_e0 := r_e0.on (KT.same s_s2)
      replace r_s0 := r_s0.on (KT.same s_s2)
      replace r_e1 := r_e1.on (KT.same s_s2)
      replace r_s1 := r_s1.on (KT.same s_s2)
      replace r_e2 := r_e2.on (KT.same s_s2)
      replace S := S.sm s_s2
      clear h_s2
      clear s_s2
      generalize (upd Hq5 s2 (.tup [.str "c", .int 4, .ref e2])) = Hq6 at hB r_e0 r_s0 r_e1 r_s1 r_e2 r_s2 S ⊢
      refine ⟨Nat.zero_le _, fun e3 h_e3 => ?_⟩
      have s_e3 : Sm Hq6 (upd Hq6 e3 (.tup [])) := Sm.new h_e3
      have r_e3 : Rp K (upd Hq6 e3 (.tup [])) (.ref e3) (.tuple _) := Rp.mk upd_same (RpAll.on (.nil) (KT.upd_new h_e3))
      replace hB := hB.keep fun a o e _ => s_e3 a o e
      replace r_e0 := r_e0.on (KT.same s_e3)
      replace r_s0 := r_s0.on (KT.same s_e3)
      replace r_e1 := r_e1.on (KT.same s_e3)
      replace r_s1 := r_s1.on (KT.same s_e3)
      replace r_e2 := r_e2.on (KT.same s_e3)
      replace r_s2 := r_s2.on (KT.same s_e3)
      replace S := S.sm s_e3
      clear h_e3
      clear s_e3
      generalize (upd Hq6 e3 (.tup [])) = Hq7 at hB r_e0 r_s0 r_e1 r_s1 r_e2 r_s2 r_e3 S ⊢
      refine ⟨(show 3 ≤ sizeLine by decide), fun s3 h_s3 => ?_⟩
      have s_s3 : Sm Hq7 (upd Hq7 s3 (.tup [.str "c", .int 2, .ref e3])) := Sm.new h_s3
      have r_s3 : Rp K (upd Hq7 s3 (.tup [.str "c", .int 2, .ref e3])) (.ref s3) (.tuple _) := Rp.mk upd_same (RpAll.on (.cons sok (.cons (.int _) (.cons r_e3 .nil))) (KT.upd_new h_s3))
      replace hB := hB.keep fun a o e _ => s_s3 a o e
      replace r_e0 := r_e0.on (KT.same s_s3)
      replace r_s0 := r_s0.on (KT.same s_s3)
      replace r_e1 := r_e1.on (KT.same s_s3)
      replace r_s1 := r_s1.on (KT.same s_s3)
      replace r_e2 := r_e2.on (KT.same s_s3)
      replace r_s2 := r_s2.on (KT.same s_s3)
      replace r_e3 := r_e3.on (KT.same s_s3)
      replace S := S.sm s_s3
      clear h_s3
      clear s_s3
      generalize (upd Hq7 s3 (.tup [.str "c", .int 2, .ref e3])) = Hq8 at hB r_e0 r_s0 r_e1 r_s1 r_e2 r_s2 r_e3 r_s3 S ⊢
      refine ⟨Nat.zero_le _, fun e4 h_e4 => ?_⟩
      have s_e4 : Sm Hq8 (upd Hq8 e4 (.tup [])) := Sm.new h_e4
      have r_e4 : Rp K (upd Hq8 e4 (.tup [])) (.ref e4) (.tuple _) := Rp.mk upd_same (RpAll.on (.nil) (KT.upd_new h_e4))
      replace hB := hB.keep fun a o e _ => s_e4 a o e
      replace r_e0 := r_e0.on (KT.same s_e4)
      replace r_s0 := r_s0.on (KT.same s_e4)
      replace r_e1 := r_e1.on (KT.same s_e4)
      replace r_s1 := r_s1.on (KT.same s_e4)
      replace r_e2 := r_e2.on (KT.same s_e4)
      replace r_s2 := r_s2.on (KT.same s_e4)
      replace r_e3 := r_e3.on (KT.same s_e4)
      replace r_s3 := r_s3.on (KT.same s_e4)
      replace S := S.sm s_e4
      clear h_e4
      clear s_e4
      generalize (upd Hq8 e4 (.tup [])) = Hq9 at hB r_e0 r_s0 r_e1 r_s1 r_e2 r_s2 r_e3 r_s3 r_e4 S ⊢
      refine ⟨(show 3 ≤ sizeLine by decide), fun s4 h_s4 => ?_⟩
      have s_s4 : Sm Hq9 (upd Hq9 s4 (.tup [.str "c", .int 7, .ref e4])) := Sm.new h_s4
      have r_s4 : Rp K (upd Hq9 s4 (.tup [.str "c", .int 7, .ref e4])) (.ref s4) (.tuple _) := Rp.mk upd_same (RpAll.on (.cons sok (.cons (.int _) (.cons r_e4 .nil))) (KT.upd_new h_s4))
      replace hB := hB.keep fun a o e _ => s_s4 a o e
      replace r_e0 := r_e0.on (KT.same s_s4)
      replace r_s0 := r_s0.on (KT.same s_s4)
      replace r_e1 := r_e1.on (KT.same s_s4)
      replace r_s1 := r_s1.on (KT.same s_s4)
      replace r_e2 := r_e2.on (KT.same s_s4)
      replace r_s2 := r_s2.on (KT.same s_s4)
      replace r_e3 := r_e3.on (KT.same s_s4)
      replace r_s3 := r_s3.on (KT.same s_s4)
      replace r_e4 := r_e4.on (KT.same s_s4)
      replace S := S.sm s_s4
      clear h_s4
      clear s_s4
      generalize (upd Hq9 s4 (.tup [.str "c", .int 7, .ref e4])) = Hq10 at hB r_e0 r_s0 r_e1 r_s1 r_e2 r_s2 r_e3 r_s3 r_e4 r_s4 S ⊢
      refine ⟨(show 5 ≤ sizeLine by decide), fun L h_L => ?_⟩
      have s_L : Sm Hq10 (upd Hq10 L (.lst [.ref s0, .ref s1, .ref s2, .ref s3, .ref s4])) := Sm.new h_L
      have o_L : (upd Hq10 L (.lst [.ref s0, .ref s1, .ref s2, .ref s3, .ref s4])) L = some (.lst [.ref s0, .ref s1, .ref s2, .ref s3, .ref s4]) := upd_same
      replace hB := hB.keep fun a o e _ => s_L a o e
      replace r_e0 := r_e0.on (KT.same s_L)
      replace r_s0 := r_s0.on (KT.same s_L)
      replace r_e1 := r_e1.on (KT.same s_L)
      replace r_s1 := r_s1.on (KT.same s_L)
      replace r_e2 := r_e2.on (KT.same s_L)
      replace r_s2 := r_s2.on (KT.same s_L)
      replace r_e3 := r_e3.on (KT.same s_L)
      replace r_s3 := r_s3.on (KT.same s_L)
      replace r_e4 := r_e4.on (KT.same s_L)
      replace r_s4 := r_s4.on (KT.same s_L)
      replace S := S.sm s_L
      clear h_L
      clear s_L
      generalize (upd Hq10 L (.lst [.ref s0, .ref s1, .ref s2, .ref s3, .ref s4])) = Hq11 at hB r_e0 r_s0 r_e1 r_s1 r_e2 r_s2 r_e3 r_s3 r_e4 r_s4 o_L S ⊢
      refine ⟨_, rfl, b, c, 5, rfl, by decide, by decide, hB, fun r2 H2 r20 r21 hx2 hB2 => ?_⟩
      replace r_e0 := r_e0.on (hB.kt hx2)
      replace r_s0 := r_s0.on (hB.kt hx2)
      replace r_e1 := r_e1.on (hB.kt hx2)
      replace r_s1 := r_s1.on (hB.kt hx2)
      replace r_e2 := r_e2.on (hB.kt hx2)
      replace r_s2 := r_s2.on (hB.kt hx2)
      replace r_e3 := r_e3.on (hB.kt hx2)
      replace r_s3 := r_s3.on (hB.kt hx2)
      replace r_e4 := r_e4.on (hB.kt hx2)
      replace r_s4 := r_s4.on (hB.kt hx2)
      replace o_L := (hx2 _ (hB.off2 o_L).1 (hB.off2 o_L).2).trans o_L
      replace S := S.bx hx2
      replace hB := hB2
      have h5 : r2 = 0 ∨ r2 = 1 ∨ r2 = 2 ∨ r2 = 3 ∨ r2 = 4 := by omega
      rcases h5 with rfl | rfl | rfl | rfl | rfl
      · exact ⟨L, _, _, _, rfl, rfl, SqL.of o_L, rfl, k _ (.c 0 []) _ S hB r_s0 (.leaf _ _ (by decide))⟩
      · exact ⟨L, _, _, _, rfl, rfl, SqL.of o_L, rfl, k _ (.c 1 []) _ S hB r_s1 (.leaf _ _ (by decide))⟩
      · exact ⟨L, _, _, _, rfl, rfl, SqL.of o_L, rfl, k _ (.c 4 []) _ S hB r_s2 (.leaf _ _ (by decide))⟩
      · exact ⟨L, _, _, _, rfl, rfl, SqL.of o_L, rfl, k _ (.c 2 []) _ S hB r_s3 (.leaf _ _ (by decide))⟩
      · exact ⟨L, _, _, _, rfl, rfl, SqL.of o_L, rfl, k _ (.c 7 []) _ S hB r_s4 (.leaf _ _ (by decide))⟩
    rw [decide_eq_false h4]
    refine iteF (A := _) ?_
    refine ⟨_, rfl, rfl, _, rfl, ?_⟩
    rw [dec_i]
    cases n with
    | zero =>
      rw [decide_eq_true (show d = 0 by omega)]
      refine iteT (B := _) ?_
      refine ⟨Nat.zero_le _, fun e0 h_e0 => ?_⟩
      have s_e0 : Sm H1 (upd H1 e0 (.tup [])) := Sm.new h_e0
      have r_e0 : Rp K (upd H1 e0 (.tup [])) (.ref e0) (.tuple _) := Rp.mk upd_same (RpAll.on (.nil) (KT.upd_new h_e0))
      replace hB := hB.keep fun a o e _ => s_e0 a o e
      replace S := S.sm s_e0
      clear h_e0
      clear s_e0
      generalize (upd H1 e0 (.tup [])) = Hq12 at hB r_e0 S ⊢
      refine ⟨(show 3 ≤ sizeLine by decide), fun s0 h_s0 => ?_⟩
      have s_s0 : Sm Hq12 (upd Hq12 s0 (.tup [.str "c", .int 0, .ref e0])) := Sm.new h_s0
      have r_s0 : Rp K (upd Hq12 s0 (.tup [.str "c", .int 0, .ref e0])) (.ref s0) (.tuple _) := Rp.mk upd_same (RpAll.on (.cons sok (.cons (.int _) (.cons r_e0 .nil))) (KT.upd_new h_s0))
      replace hB := hB.keep fun a o e _ => s_s0 a o e
      replace r_e0 := r_e0.on (KT.same s_s0)
      replace S := S.sm s_s0
      clear h_s0
      clear s_s0
      generalize (upd Hq12 s0 (.tup [.str "c", .int 0, .ref e0])) = Hq13 at hB r_e0 r_s0 S ⊢
      refine ⟨Nat.zero_le _, fun e1 h_e1 => ?_⟩
      have s_e1 : Sm Hq13 (upd Hq13 e1 (.tup [])) := Sm.new h_e1
      have r_e1 : Rp K (upd Hq13 e1 (.tup [])) (.ref e1) (.tuple _) := Rp.mk upd_same (RpAll.on (.nil) (KT.upd_new h_e1))
      replace hB := hB.keep fun a o e _ => s_e1 a o e
      replace r_e0 := r_e0.on (KT.same s_e1)
      replace r_s0 := r_s0.on (KT.same s_e1)
      replace S := S.sm s_e1
      clear h_e1
      clear s_e1
      generalize (upd Hq13 e1 (.tup [])) = Hq14 at hB r_e0 r_s0 r_e1 S ⊢
      refine ⟨(show 3 ≤ sizeLine by decide), fun s1 h_s1 => ?_⟩
      have s_s1 : Sm Hq14 (upd Hq14 s1 (.tup [.str "c", .int 1, .ref e1])) := Sm.new h_s1
      have r_s1 : Rp K (upd Hq14 s1 (.tup [.str "c", .int 1, .ref e1])) (.ref s1) (.tuple _) := Rp.mk upd_same (RpAll.on (.cons sok (.cons (.int _) (.cons r_e1 .nil))) (KT.upd_new h_s1))
      replace hB := hB.keep fun a o e _ => s_s1 a o e
      replace r_e0 := r_e0.on (KT.same s_s1)
      replace r_s0 := r_s0.on (KT.same s_s1)
      replace r_e1 := r_e1.on (KT.same s_s1)
      replace S := S.sm s_s1
      clear h_s1
      clear s_s1
      generalize (upd Hq14 s1 (.tup [.str "c", .int 1, .ref e1])) = Hq15 at hB r_e0 r_s0 r_e1 r_s1 S ⊢
      refine ⟨Nat.zero_le _, fun e2 h_e2 => ?_⟩
      have s_e2 : Sm Hq15 (upd Hq15 e2 (.tup [])) := Sm.new h_e2
      have r_e2 : Rp K (upd Hq15 e2 (.tup [])) (.ref e2) (.tuple _) := Rp.mk upd_same (RpAll.on (.nil) (KT.upd_new h_e2))
      replace hB := hB.keep fun a o e _ => s_e2 a o e
      replace r_e0 := r_e0.on (KT.same s_e2)
      replace r_s0 := r_s0.on (KT.same s_e2)
      replace r_e1 := r_e1.on (KT.same s_e2)
      replace r_s1 := r_s1.on (KT.same s_e2)
      replace S := S.sm s_e2
      clear h_e2
      clear s_e2
      generalize (upd Hq15 e2 (.tup [])) = Hq16 at hB r_e0 r_s0 r_e1 r_s1 r_e2 S ⊢
      refine ⟨(show 3 ≤ sizeLine by decide), fun s2 h_s2 => ?_⟩
      have s_s2 : Sm Hq16 (upd Hq16 s2 (.tup [.str "c", .int 4, .ref e2])) := Sm.new h_s2
      have r_s2 : Rp K (upd Hq16 s2 (.tup [.str "c", .int 4, .ref e2])) (.ref s2) (.tuple _) := Rp.mk upd_same (RpAll.on (.cons sok (.cons (.int _) (.cons r_e2 .nil))) (KT.upd_new h_s2))
      replace hB := hB.keep fun a o e _ => s_s2 a o e
      replace r_e0 := r_e0.on (KT.same s_s2)
      replace r_s0 := r_s0.on (KT.same s_s2)
      replace r_e1 := r_e1.on (KT.same s_s2)
      replace r_s1 := r_s1.on (KT.same s_s2)
      replace r_e2 := r_e2.on (KT.same s_s2)
      replace S := S.sm s_s2
      clear h_s2
      clear s_s2
      generalize (upd Hq16 s2 (.tup [.str "c", .int 4, .ref e2])) = Hq17 at hB r_e0 r_s0 r_e1 r_s1 r_e2 r_s2 S ⊢
      refine ⟨Nat.zero_le _, fun e3 h_e3 => ?_⟩
      have s_e3 : Sm Hq17 (upd Hq17 e3 (.tup [])) := Sm.new h_e3
      have r_e3 : Rp K (upd Hq17 e3 (.tup [])) (.ref e3) (.tuple _) := Rp.mk upd_same (RpAll.on (.nil) (KT.upd_new h_e3))
      replace hB := hB.keep fun a o e _ => s_e3 a o e
      replace r_e0 := r_e0.on (KT.same s_e3)
      replace r_s0 := r_s0.on (KT.same s_e3)
      replace r_e1 := r_e1.on (KT.same s_e3)
      replace r_s1 := r_s1.on (KT.same s_e3)
      replace r_e2 := r_e2.on (KT.same s_e3)
      replace r_s2 := r_s2.on (KT.same s_e3)
      replace S := S.sm s_e3
      clear h_e3
      clear s_e3
      generalize (upd Hq17 e3 (.tup [])) = Hq18 at hB r_e0 r_s0 r_e1 r_s1 r_e2 r_s2 r_e3 S ⊢
      refine ⟨(show 3 ≤ sizeLine by decide), fun s3 h_s3 => ?_⟩
      have s_s3 : Sm Hq18 (upd Hq18 s3 (.tup [.str "c", .int 2, .ref e3])) := Sm.new h_s3
      have r_s3 : Rp K (upd Hq18 s3 (.tup [.str "c", .int 2, .ref e3])) (.ref s3) (.tuple _) := Rp.mk upd_same (RpAll.on (.cons sok (.cons (.int _) (.cons r_e3 .nil))) (KT.upd_new h_s3))
      replace hB := hB.keep fun a o e _ => s_s3 a o e
      replace r_e0 := r_e0.on (KT.same s_s3)
      replace r_s0 := r_s0.on (KT.same s_s3)
      replace r_e1 := r_e1.on (KT.same s_s3)
      replace r_s1 := r_s1.on (KT.same s_s3)
      replace r_e2 := r_e2.on (KT.same s_s3)
      replace r_s2 := r_s2.on (KT.same s_s3)
      replace r_e3 := r_e3.on (KT.same s_s3)
      replace S := S.sm s_s3
      clear h_s3
      clear s_s3
      generalize (upd Hq18 s3 (.tup [.str "c", .int 2, .ref e3])) = Hq19 at hB r_e0 r_s0 r_e1 r_s1 r_e2 r_s2 r_e3 r_s3 S ⊢
      refine ⟨Nat.zero_le _, fun e4 h_e4 => ?_⟩
      have s_e4 : Sm Hq19 (upd Hq19 e4 (.tup [])) := Sm.new h_e4
      have r_e4 : Rp K (upd Hq19 e4 (.tup [])) (.ref e4) (.tuple _) := Rp.mk upd_same (RpAll.on (.nil) (KT.upd_new h_e4))
      replace hB := hB.keep fun a o e _ => s_e4 a o e
      replace r_e0 := r_e0.on (KT.same s_e4)
      replace r_s0 := r_s0.on (KT.same s_e4)
      replace r_e1 := r_e1.on (KT.same s_e4)
      replace r_s1 := r_s1.on (KT.same s_e4)
      replace r_e2 := r_e2.on (KT.same s_e4)
      replace r_s2 := r_s2.on (KT.same s_e4)
      replace r_e3 := r_e3.on (KT.same s_e4)
      replace r_s3 := r_s3.on (KT.same s_e4)
      replace S := S.sm s_e4
      clear h_e4
      clear s_e4
      generalize (upd Hq19 e4 (.tup [])) = Hq20 at hB r_e0 r_s0 r_e1 r_s1 r_e2 r_s2 r_e3 r_s3 r_e4 S ⊢
      refine ⟨(show 3 ≤ sizeLine by decide), fun s4 h_s4 => ?_⟩
      have s_s4 : Sm Hq20 (upd Hq20 s4 (.tup [.str "c", .int 7, .ref e4])) := Sm.new h_s4
      have r_s4 : Rp K (upd Hq20 s4 (.tup [.str "c", .int 7, .ref e4])) (.ref s4) (.tuple _) := Rp.mk upd_same (RpAll.on (.cons sok (.cons (.int _) (.cons r_e4 .nil))) (KT.upd_new h_s4))
      replace hB := hB.keep fun a o e _ => s_s4 a o e
      replace r_e0 := r_e0.on (KT.same s_s4)
      replace r_s0 := r_s0.on (KT.same s_s4)
      replace r_e1 := r_e1.on (KT.same s_s4)
      replace r_s1 := r_s1.on (KT.same s_s4)
      replace r_e2 := r_e2.on (KT.same s_s4)
      replace r_s2 := r_s2.on (KT.same s_s4)
      replace r_e3 := r_e3.on (KT.same s_s4)
      replace r_s3 := r_s3.on (KT.same s_s4)
      replace r_e4 := r_e4.on (KT.same s_s4)
      replace S := S.sm s_s4
      clear h_s4
      clear s_s4
      generalize (upd Hq20 s4 (.tup [.str "c", .int 7, .ref e4])) = Hq21 at hB r_e0 r_s0 r_e1 r_s1 r_e2 r_s2 r_e3 r_s3 r_e4 r_s4 S ⊢
      refine ⟨(show 5 ≤ sizeLine by decide), fun L h_L => ?_⟩
      have s_L : Sm Hq21 (upd Hq21 L (.lst [.ref s0, .ref s1, .ref s2, .ref s3, .ref s4])) := Sm.new h_L
      have o_L : (upd Hq21 L (.lst [.ref s0, .ref s1, .ref s2, .ref s3, .ref s4])) L = some (.lst [.ref s0, .ref s1, .ref s2, .ref s3, .ref s4]) := upd_same
      replace hB := hB.keep fun a o e _ => s_L a o e
      replace r_e0 := r_e0.on (KT.same s_L)
      replace r_s0 := r_s0.on (KT.same s_L)
      replace r_e1 := r_e1.on (KT.same s_L)
      replace r_s1 := r_s1.on (KT.same s_L)
      replace r_e2 := r_e2.on (KT.same s_L)
      replace r_s2 := r_s2.on (KT.same s_L)
      replace r_e3 := r_e3.on (KT.same s_L)
      replace r_s3 := r_s3.on (KT.same s_L)
      replace r_e4 := r_e4.on (KT.same s_L)
      replace r_s4 := r_s4.on (KT.same s_L)
      replace S := S.sm s_L
      clear h_L
      clear s_L
      generalize (upd Hq21 L (.lst [.ref s0, .ref s1, .ref s2, .ref s3, .ref s4])) = Hq22 at hB r_e0 r_s0 r_e1 r_s1 r_e2 r_s2 r_e3 r_s3 r_e4 r_s4 o_L S ⊢
      refine ⟨_, rfl, b, c, 5, rfl, by decide, by decide, hB, fun r2 H2 r20 r21 hx2 hB2 => ?_⟩
      replace r_e0 := r_e0.on (hB.kt hx2)
      replace r_s0 := r_s0.on (hB.kt hx2)
      replace r_e1 := r_e1.on (hB.kt hx2)
      replace r_s1 := r_s1.on (hB.kt hx2)
      replace r_e2 := r_e2.on (hB.kt hx2)
      replace r_s2 := r_s2.on (hB.kt hx2)
      replace r_e3 := r_e3.on (hB.kt hx2)
      replace r_s3 := r_s3.on (hB.kt hx2)
      replace r_e4 := r_e4.on (hB.kt hx2)
      replace r_s4 := r_s4.on (hB.kt hx2)
      replace o_L := (hx2 _ (hB.off2 o_L).1 (hB.off2 o_L).2).trans o_L
      replace S := S.bx hx2
      replace hB := hB2
      have h5 : r2 = 0 ∨ r2 = 1 ∨ r2 = 2 ∨ r2 = 3 ∨ r2 = 4 := by omega
      rcases h5 with rfl | rfl | rfl | rfl | rfl
      · exact ⟨L, _, _, _, rfl, rfl, SqL.of o_L, rfl, k _ (.c 0 []) _ S hB r_s0 (.leaf _ _ (by decide))⟩
      · exact ⟨L, _, _, _, rfl, rfl, SqL.of o_L, rfl, k _ (.c 1 []) _ S hB r_s1 (.leaf _ _ (by decide))⟩
      · exact ⟨L, _, _, _, rfl, rfl, SqL.of o_L, rfl, k _ (.c 4 []) _ S hB r_s2 (.leaf _ _ (by decide))⟩
      · exact ⟨L, _, _, _, rfl, rfl, SqL.of o_L, rfl, k _ (.c 2 []) _ S hB r_s3 (.leaf _ _ (by decide))⟩
      · exact ⟨L, _, _, _, rfl, rfl, SqL.of o_L, rfl, k _ (.c 7 []) _ S hB r_s4 (.leaf _ _ (by decide))⟩
    | succ n =>
      rw [decide_eq_false (show ¬ d = 0 by omega)]
      refine iteF (A := _) ?_
      refine ⟨_, rfl, _, rfl, _, _, rfl, rfl, b, c, d - 1, rfl, by omega, hB, fun r1 sh1 H3 hs3 hB3 r_one g1 => ?_⟩
      replace S := S.trans hs3
      replace hB := hB3
      obtain ⟨o1, rfl⟩ := Sh.ref sh1 r_one
      refine ⟨_, rfl, _, _, rfl, rfl, _, rfl, ?_⟩
      by_cases h7 : kd < 7
      · rw [decide_eq_true h7]
        refine iteT (B := _) ?_
        refine ⟨(show 3 ≤ sizeLine by decide), fun L h_L => ?_⟩
        have s_L : Sm H3 (upd H3 L (.lst [.int 5, .int 6, .int 3])) := Sm.new h_L
        have o_L : (upd H3 L (.lst [.int 5, .int 6, .int 3])) L = some (.lst [.int 5, .int 6, .int 3]) := upd_same
        replace hB := hB.keep fun a o e _ => s_L a o e
        replace r_one := r_one.on (KT.same s_L)
        replace S := S.sm s_L
        clear h_L
        clear s_L
        generalize (upd H3 L (.lst [.int 5, .int 6, .int 3])) = Hq23 at hB r_one o_L S ⊢
        have hk : ∃ s : Int, (s = 5 ∨ s = 6 ∨ s = 3) ∧ atI [V.int 5, V.int 6, V.int 3] (kd - 4) = some (.int s) := by
          have h3 : kd = 4 ∨ kd = 5 ∨ kd = 6 := by omega
          rcases h3 with rfl | rfl | rfl
          · exact ⟨5, by decide, rfl⟩
          · exact ⟨6, by decide, rfl⟩
          · exact ⟨3, by decide, rfl⟩
        obtain ⟨s, hs, ats⟩ := hk
        refine ⟨_, rfl, _, _, rfl, rfl, L, _, _, _, rfl, rfl, SqL.of o_L, ats, _, rfl, (show 1 ≤ sizeLine by decide), fun t1 h_t1 => ?_⟩
        have s_t1 : Sm Hq23 (upd Hq23 t1 (.tup [.ref o1])) := Sm.new h_t1
        have r_t1 : Rp K (upd Hq23 t1 (.tup [.ref o1])) (.ref t1) (.tuple _) := Rp.mk upd_same (RpAll.on (.cons r_one .nil) (KT.upd_new h_t1))
        replace hB := hB.keep fun a o e _ => s_t1 a o e
        replace r_one := r_one.on (KT.same s_t1)
        replace o_L := s_t1 _ _ o_L
        replace S := S.sm s_t1
        clear h_t1
        clear s_t1
        generalize (upd Hq23 t1 (.tup [.ref o1])) = Hq24 at hB r_one o_L r_t1 S ⊢
        refine ⟨(show 3 ≤ sizeLine by decide), fun t2 h_t2 => ?_⟩
        have s_t2 : Sm Hq24 (upd Hq24 t2 (.tup [.str "c", .int s, .ref t1])) := Sm.new h_t2
        have r_t2 : Rp K (upd Hq24 t2 (.tup [.str "c", .int s, .ref t1])) (.ref t2) (.tuple _) := Rp.mk upd_same (RpAll.on (.cons sok (.cons (.int _) (.cons r_t1 .nil))) (KT.upd_new h_t2))
        replace hB := hB.keep fun a o e _ => s_t2 a o e
        replace r_one := r_one.on (KT.same s_t2)
        replace o_L := s_t2 _ _ o_L
        replace r_t1 := r_t1.on (KT.same s_t2)
        replace S := S.sm s_t2
        clear h_t2
        clear s_t2
        generalize (upd Hq24 t2 (.tup [.str "c", .int s, .ref t1])) = Hq25 at hB r_one o_L r_t1 r_t2 S ⊢
        exact k _ (.c s [sh1]) _ S hB (by simpa [Sh.d, Sh.ds] using r_t2) (.one _ _ _ hs g1)
      rw [decide_eq_false h7]
      refine iteF (A := _) ?_
      refine ⟨_, rfl, _, rfl, _, _, rfl, rfl, b, c, d - 1, rfl, by omega, hB, fun r2 sh2 H4 hs4 hB4 r_two g2 => ?_⟩
      replace r_one := r_one.on (hB.kts hs4)
      replace S := S.trans hs4
      replace hB := hB4
      obtain ⟨o2, rfl⟩ := Sh.ref sh2 r_two
      refine ⟨_, rfl, rfl, _, rfl, ?_⟩
      rw [dec_i]
      by_cases h8 : kd = 7
      · rw [decide_eq_true h8]
        refine iteT (B := _) ?_
        refine ⟨_, rfl, _, rfl, (show 2 ≤ sizeLine by decide), fun t1 h_t1 => ?_⟩
        have s_t1 : Sm H4 (upd H4 t1 (.tup [.ref o1, .ref o2])) := Sm.new h_t1
        have r_t1 : Rp K (upd H4 t1 (.tup [.ref o1, .ref o2])) (.ref t1) (.tuple _) := Rp.mk upd_same (RpAll.on (.cons r_one (.cons r_two .nil)) (KT.upd_new h_t1))
        replace hB := hB.keep fun a o e _ => s_t1 a o e
        replace r_one := r_one.on (KT.same s_t1)
        replace r_two := r_two.on (KT.same s_t1)
        replace S := S.sm s_t1
        clear h_t1
        clear s_t1
        generalize (upd H4 t1 (.tup [.ref o1, .ref o2])) = Hq26 at hB r_one r_two r_t1 S ⊢
        refine ⟨(show 2 ≤ sizeLine by decide), fun t2 h_t2 => ?_⟩
        have s_t2 : Sm Hq26 (upd Hq26 t2 (.tup [.str "t", .ref t1])) := Sm.new h_t2
        have r_t2 : Rp K (upd Hq26 t2 (.tup [.str "t", .ref t1])) (.ref t2) (.tuple _) := Rp.mk upd_same (RpAll.on (.cons sok (.cons r_t1 .nil)) (KT.upd_new h_t2))
        replace hB := hB.keep fun a o e _ => s_t2 a o e
        replace r_one := r_one.on (KT.same s_t2)
        replace r_two := r_two.on (KT.same s_t2)
        replace r_t1 := r_t1.on (KT.same s_t2)
        replace S := S.sm s_t2
        clear h_t2
        clear s_t2
        generalize (upd Hq26 t2 (.tup [.str "t", .ref t1])) = Hq27 at hB r_one r_two r_t1 r_t2 S ⊢
        exact k _ (.t [sh1, sh2]) _ S hB (by simpa [Sh.d, Sh.ds] using r_t2) (.pair _ _ _ g1 g2)
      rw [decide_eq_false h8]
      refine iteF (A := _) ?_
      refine ⟨_, rfl, _, rfl, (show 3 ≤ sizeLine by decide), fun t1 h_t1 => ?_⟩
      have s_t1 : Sm H4 (upd H4 t1 (.tup [.str "f", .ref o1, .ref o2])) := Sm.new h_t1
      have r_t1 : Rp K (upd H4 t1 (.tup [.str "f", .ref o1, .ref o2])) (.ref t1) (.tuple _) := Rp.mk upd_same (RpAll.on (.cons sok (.cons r_one (.cons r_two .nil))) (KT.upd_new h_t1))
      replace hB := hB.keep fun a o e _ => s_t1 a o e
      replace r_one := r_one.on (KT.same s_t1)
      replace r_two := r_two.on (KT.same s_t1)
      replace S := S.sm s_t1
      clear h_t1
      clear s_t1
      generalize (upd H4 t1 (.tup [.str "f", .ref o1, .ref o2])) = Hq28 at hB r_one r_two r_t1 S ⊢
      refine ⟨_, rfl, _, rfl, (show 2 ≤ sizeLine by decide), fun t2 h_t2 => ?_⟩
      have s_t2 : Sm Hq28 (upd Hq28 t2 (.tup [.ref o1, .ref o2])) := Sm.new h_t2
      have r_t2 : Rp K (upd Hq28 t2 (.tup [.ref o1, .ref o2])) (.ref t2) (.tuple _) := Rp.mk upd_same (RpAll.on (.cons r_one (.cons r_two .nil)) (KT.upd_new h_t2))
      replace hB := hB.keep fun a o e _ => s_t2 a o e
      replace r_one := r_one.on (KT.same s_t2)
      replace r_two := r_two.on (KT.same s_t2)
      replace r_t1 := r_t1.on (KT.same s_t2)
      replace S := S.sm s_t2
      clear h_t2
      clear s_t2
      generalize (upd Hq28 t2 (.tup [.ref o1, .ref o2])) = Hq29 at hB r_one r_two r_t1 r_t2 S ⊢
      refine ⟨(show 3 ≤ sizeLine by decide), fun t3 h_t3 => ?_⟩
      have s_t3 : Sm Hq29 (upd Hq29 t3 (.tup [.str "c", .int 8, .ref t2])) := Sm.new h_t3
      have r_t3 : Rp K (upd Hq29 t3 (.tup [.str "c", .int 8, .ref t2])) (.ref t3) (.tuple _) := Rp.mk upd_same (RpAll.on (.cons sok (.cons (.int _) (.cons r_t2 .nil))) (KT.upd_new h_t3))
      replace hB := hB.keep fun a o e _ => s_t3 a o e
      replace r_one := r_one.on (KT.same s_t3)
      replace r_two := r_two.on (KT.same s_t3)
      replace r_t1 := r_t1.on (KT.same s_t3)
      replace r_t2 := r_t2.on (KT.same s_t3)
      replace S := S.sm s_t3
      clear h_t3
      clear s_t3
      generalize (upd Hq29 t3 (.tup [.str "c", .int 8, .ref t2])) = Hq30 at hB r_one r_two r_t1 r_t2 r_t3 S ⊢
      refine ⟨(show 2 ≤ sizeLine by decide), fun L h_L => ?_⟩
      have s_L : Sm Hq30 (upd Hq30 L (.lst [.ref t1, .ref t3])) := Sm.new h_L
      have o_L : (upd Hq30 L (.lst [.ref t1, .ref t3])) L = some (.lst [.ref t1, .ref t3]) := upd_same
      replace hB := hB.keep fun a o e _ => s_L a o e
      replace r_one := r_one.on (KT.same s_L)
      replace r_two := r_two.on (KT.same s_L)
      replace r_t1 := r_t1.on (KT.same s_L)
      replace r_t2 := r_t2.on (KT.same s_L)
      replace r_t3 := r_t3.on (KT.same s_L)
      replace S := S.sm s_L
      clear h_L
      clear s_L
      generalize (upd Hq30 L (.lst [.ref t1, .ref t3])) = Hq31 at hB r_one r_two r_t1 r_t2 r_t3 o_L S ⊢
      have h2 : kd = 8 ∨ kd = 9 := by omega
      rcases h2 with rfl | rfl
      · exact ⟨_, rfl, _, _, rfl, rfl, L, _, _, _, rfl, rfl, SqL.of o_L, rfl, k _ (.f sh1 sh2) _ S hB (by simpa [Sh.d, Sh.ds] using r_t1) (.fn _ _ _ g1 g2)⟩
      · exact ⟨_, rfl, _, _, rfl, rfl, L, _, _, _, rfl, rfl, SqL.of o_L, rfl, k _ (.c 8 [sh1, sh2]) _ S hB (by simpa [Sh.d, Sh.ds] using r_t3) (.own _ _ _ g1 g2)⟩
theorem ok_shape (T : Txt K mg A) : ∀ n : Nat, FnOk P w K mg base CX0 (n + 3) A.f__law_shape A.d__law_shape ["box", "deep"] (spShape K n)
  | 0 => shape_step T 0 (T.F__law_shape.ok (k := 1) sc__law_shape (fun _ _ _ _ h => h.elim) (fun _ _ _ _ _ _ _ _ _ h => h.elim))
  | n + 1 => shape_step T (n + 1) (ok_shape T n)
end
end K88

set_option Elab.async false
set_option maxRecDepth 100000
set_option linter.all false
set_option maxHeartbeats 40000000
namespace K88
open PySem L2 GD AG
section
variable {P : Program} {w : World} {K : PySem.W.Frag} {mg : Str → Option Value} {base : Heap} {A : Adr}
/-- but for the box and the store -/
def Vs (b c s : Addr) (H H' : Hp) : Prop := ∀ a o, a ≠ b → a ≠ c → a ≠ s → H a = some o → H' a = some o
theorem Vs.refl {b c s : Addr} {H : Hp} : Vs b c s H H := fun _ _ _ _ _ e => e
theorem Vs.trans {b c s : Addr} {H H1 H2 : Hp} (h : Vs b c s H H1) (k : Vs b c s H1 H2) : Vs b c s H H2 := fun a o n1 n2 n3 e => k a o n1 n2 n3 (h a o n1 n2 n3 e)
theorem Vs.sm {b c s : Addr} {H H1 H2 : Hp} (h : Vs b c s H H1) (k : Sm H1 H2) : Vs b c s H H2 := fun a o n1 n2 n3 e => k a o (h a o n1 n2 n3 e)
theorem Vs.bx {b c s : Addr} {H H1 H2 : Hp} (h : Vs b c s H H1) (k : Bx b c H1 H2) : Vs b c s H H2 := fun a o n1 n2 n3 e => (k a n1 n2).trans (h a o n1 n2 n3 e)
/-- the store -/
structure StAt (K : PySem.W.Frag) (H : Hp) (b c s : Addr) (st : List Vl) : Prop where
  nb : s ≠ b
  nc : s ≠ c
  at_ : ∃ vs, H s = some (.lst vs) ∧ RpAll K H vs (Vl.ds st)
  ok : Vl.okas st
theorem StAt.sm {H H' : Hp} {b c s : Addr} {st : List Vl} (h : StAt K H b c s st) (k : Sm H H') : StAt K H' b c s st := by
  obtain ⟨nb, nc, ⟨vs, e, r⟩, o⟩ := h
  exact ⟨nb, nc, ⟨vs, k _ _ e, r.on (KT.same k)⟩, o⟩
theorem StAt.bx {H H' : Hp} {b c s : Addr} {st : List Vl} (h : StAt K H b c s st) (hb : BoxAt H b c) (k : Bx b c H H') : StAt K H' b c s st := by
  obtain ⟨nb, nc, ⟨vs, e, r⟩, o⟩ := h
  exact ⟨nb, nc, ⟨vs, (k _ nb nc).trans e, r.on (hb.kt k)⟩, o⟩
theorem BoxAt.ktv {H H' : Hp} {b c s : Addr} {st : List Vl} (h : BoxAt H b c) (q : StAt K H b c s st) (k : Vs b c s H H') : KT H H' := by
  obtain ⟨ns, n, m, k0, h1, h2, h3⟩ := h
  obtain ⟨nb, nc, ⟨vs, e, _⟩, _⟩ := q
  intro a xs q
  have n1 : a ≠ b := fun z => NT.lst h1 xs (by rw [z] at q; exact q)
  have n2 : a ≠ c := fun z => NT.lst h2 xs (by rw [z] at q; exact q)
  have n3 : a ≠ s := fun z => NT.lst e xs (by rw [z] at q; exact q)
  rcases q with q | ⟨o, q⟩
  · exact .inl (k _ _ n1 n2 n3 q)
  · exact .inr ⟨o, k _ _ n1 n2 n3 q⟩
def spStored (K : PySem.W.Frag) : Sp := fun vs H Q _ => ∃ (b c s : Addr) (x : V) (st : List Vl) (v : Vl), vs = [.ref s, x] ∧ BoxAt H b c ∧ StAt K H b c s st ∧ st.length ≤ 10000 ∧ Rp K H x v.d ∧ v.oka ∧
  ∀ (r : V) (H' : Hp), Vs b c s H H' → BoxAt H' b c → StAt K H' b c s (st ++ [v]) → Rp K H' r (Vl.ref (st.length : Int)).d → Q r H'
theorem ok_stored (T : Txt K mg A) : FnOk P w K mg base CX0 1 A.f__law_stored A.d__law_stored ["store", "value"] (spStored K) := by
  refine T.F__law_stored.ok sc__law_stored (fun vs H Q E h => ?_) (fun cdv Ar outer s H vs Q E hr h => ?_)
  · obtain ⟨b, c, s, x, st, v, rfl, _⟩ := h
    rfl
  · obtain ⟨b, c, s, x, st, v, rfl, hB, hst, hl, hx, hv, k⟩ := h
    refine ⟨_, (pss_cons (ps_expr (pe_bm PySem.F.plainAttrs_list PySem.F.slot_list_append PySem.F.type_list_append mt_append (pv 0) (pa_cons (pv 1) pa_nil))) (pss_one (ps_ret (pe_tup (pa_cons pe_str (pa_cons (pe_op op_sub (pe_callB call_len_seq (by rfl) T.n_len PySem.boot_len (pa_cons (pv 0) pa_nil)) pe_int) pa_nil)))))), ?_⟩
    obtain ⟨nb, nc, ⟨vs, e, r⟩, o⟩ := hst
    have hvl : vs.length = st.length := by rw [r.length, vds_len]
    refine ⟨_, rfl, .inl ⟨rfl, _, SqL.of e⟩, _, rfl, s, _, _, rfl, rfl, e, small_lt (by omega), ?_⟩
    have kt : KT H (upd H s (.lst (vs ++ [x]))) := KT.upd_lst (NT.lst e)
    refine ⟨_, rfl, s, _, rfl, .inl (SqL.of upd_same), _, _, rfl, rfl, (show 2 ≤ sizeLine by decide), fun p hp => ?_⟩
    have nsp : s ≠ p := ne_of_none upd_same hp
    have el : (((vs ++ [x]).length : Nat) : Int) - 1 = (st.length : Int) := by simp [hvl]
    show Q (.ref p) (upd (upd H s (.lst (vs ++ [x]))) p (.tup [.str "ref", .int ((((vs ++ [x]).length : Nat) : Int) - 1)]))
    rw [el]
    have kp := KT.upd_new (o := .tup [.str "ref", .int (st.length : Int)]) hp
    refine k _ _ (fun a o n1 n2 n3 e1 => ?_) (hB.keep fun a o e1 z => ?_) ⟨nb, nc, ⟨vs ++ [x], by rw [upd_ne nsp, upd_same], ?_⟩, okas_app o (by simp only [Vl.okas]; exact ⟨hv, trivial⟩)⟩ ?_
    · have e2 : (upd H s (.lst (vs ++ [x]))) a = some o := by rw [upd_ne n3]; exact e1
      rw [upd_ne (ne_of_none e2 hp)]
      exact e2
    · have n3 : a ≠ s := by rcases z with z | z <;> subst z <;> first | exact nb.symm | exact nc.symm
      have e2 : (upd H s (.lst (vs ++ [x]))) a = some o := by rw [upd_ne n3]; exact e1
      rw [upd_ne (ne_of_none e2 hp)]
      exact e2
    · rw [vds_map, List.map_append, ← vds_map]
      exact RpAll.app ((r.on kt).on kp) (.cons ((hx.on kt).on kp) .nil)
    · simp only [Vl.d]
      exact Rp.mk upd_same (.cons sok (.cons (.int _) .nil))
def spVal (K : PySem.W.Frag) (n : Nat) : Sp := fun vs H Q _ => ∃ (b c s : Addr) (x : V) (d : Int) (m : Nat) (sh : Sh) (st : List Vl), vs = [.ref b, x, .ref s, .int d] ∧ d.toNat + m ≤ n ∧ GS m sh ∧ BoxAt H b c ∧ StAt K H b c s st ∧ st.length + 2 ^ n ≤ 10000 ∧ Rp K H x sh.d ∧
  ∀ (r : V) (H' : Hp) (v : Vl) (st' : List Vl), Vs b c s H H' → BoxAt H' b c → StAt K H' b c s st' → Rp K H' r v.d → Pre st st' → st'.length + 1 ≤ st.length + 2 ^ n → VOk full st' (2 * n + 1) st'.length sh v → Q r H'
def spValR (K : PySem.W.Frag) : Nat → Sp
  | 0 => fun _ _ _ _ => False
  | n + 1 => spVal K n
/-- of the own variant -/
def spOwn (K : PySem.W.Frag) (n : Nat) : Sp := fun vs H Q _ => ∃ (b c s : Addr) (x : V) (d : Int) (m : Nat) (p q : Sh) (st : List Vl), vs = [.ref b, x, .ref s, .int d] ∧ d.toNat + m + 1 ≤ n ∧ GS m p ∧ GS m q ∧ BoxAt H b c ∧ StAt K H b c s st ∧ st.length + 2 ^ n ≤ 10000 ∧ Rp K H x (Sh.c 8 [p, q]).d ∧
  ∀ (r : V) (H' : Hp) (v : Vl) (st' : List Vl), Vs b c s H H' → BoxAt H' b c → StAt K H' b c s st' → Rp K H' r v.d → Pre st st' → st'.length + 1 ≤ st.length + 2 ^ n → VOk full st' (2 * n + 1) st'.length (Sh.c 8 [p, q]) v → Q r H'
theorem at_A : rowAt full 8 0 = some rowA := rowAt_of (r := rowA) uniq_full (by unfold full; simp)
theorem at_B : rowAt full 8 1 = some rowB := rowAt_of (r := rowB) uniq_full (by unfold full; simp)
theorem at_C : rowAt full 8 2 = some rowC := rowAt_of (r := rowC) uniq_full (by unfold full; simp)
theorem own_step (T : Txt K mg A) (n : Nat) (G__law_value : FnOk P w K mg base CX0 (2 * n + 2) A.f__law_value A.d__law_value ["box", "shape", "store", "deep"] (spValR K n)) : FnOk P w K mg base CX0 (2 * n + 3) A.f__law_own_value A.d__law_own_value ["box", "shape", "store", "deep"] (spOwn K n) := by
  have G__law_draw : FnOk P w K mg base CX0 2 A.f__law_draw A.d__law_draw _ _ := ok__law_draw T
  refine T.F__law_own_value.ok (k := 2 * n + 2) sc__law_own_value (fun vs H Q E h => ?_) (fun cdv Ar outer s H vs Q E hr h => ?_)
  · obtain ⟨b, c, s, x, d, m, p, q, st, rfl, _⟩ := h
    rfl
  · obtain ⟨b, c, s, x, d, m, p, q, st, rfl, hn, gp, gq, hB, hst, hl, hx, k⟩ := h
    refine ⟨_, (pss_cons (ps_set (i := 4) sc__law_own_value.nd rfl (Or.inl rfl) (pe_call G__law_draw (hr.mono (by first | decide | omega)) rfl T.g__law_draw T.F__law_draw.kp T.b__law_draw .nil pass0 (pa_cons (pv 0) (pa_cons pe_int pa_nil)))) (pss_cons (ps_asg (pe_ix (ixt (K := K) rfl) (pv 1) pe_int (fun _ _ => rfl)) (pg_tup rfl (pgs_cons (pg_name (i := 5) sc__law_own_value.nd rfl (Or.inl rfl)) (pgs_cons (pg_name (i := 6) sc__law_own_value.nd rfl (Or.inl rfl)) pgs_nil)))) (pss_cons (ps_if (PW.pt (pw_or (pt_cmpR op_eq (pv 4) pe_int (nomark _)) (pw_or1 (pt_cmpR op_le (pv 3) pe_int (nomark _))))) (pss_one (ps_ret (pe_tup (pa_cons pe_str (pa_cons pe_int (pa_cons pe_str (pa_cons pe_non pa_nil))))))) pss_nil) (pss_cons (ps_if (pt_cmpR op_eq (pv 4) pe_int (nomark _)) (pss_one (ps_ret (pe_tup (pa_cons pe_str (pa_cons pe_int (pa_cons pe_str (pa_cons (pe_call G__law_value (hr.mono (by first | decide | omega)) rfl T.g__law_value T.F__law_value.kp T.b__law_value .nil pass0 (pa_cons (pv 0) (pa_cons (pv 6) (pa_cons (pv 2) (pa_cons (pe_op op_sub (pv 3) pe_int) pa_nil))))) pa_nil))))))) pss_nil) (pss_cons (ps_set (i := 7) sc__law_own_value.nd rfl (Or.inl rfl) (pe_call G__law_value (hr.mono (by first | decide | omega)) rfl T.g__law_value T.F__law_value.kp T.b__law_value .nil pass0 (pa_cons (pv 0) (pa_cons (pv 5) (pa_cons (pv 2) (pa_cons (pe_op op_sub (pv 3) pe_int) pa_nil)))))) (pss_one (ps_ret (pe_tup (pa_cons pe_str (pa_cons pe_int (pa_cons pe_str (pa_cons (pe_tup (pa_cons pe_str (pa_cons (pe_tup (pa_cons (pv 7) (pa_cons (pe_call G__law_value (hr.mono (by first | decide | omega)) rfl T.g__law_value T.F__law_value.kp T.b__law_value .nil pass0 (pa_cons (pv 0) (pa_cons (pe_tup (pa_cons pe_str (pa_cons pe_int (pa_cons (pe_tup (pa_cons (pv 6) (pa_cons (pv 5) pa_nil))) pa_nil)))) (pa_cons (pv 2) (pa_cons (pe_op op_sub (pv 3) pe_int) pa_nil))))) pa_nil))) pa_nil))) pa_nil)))))))))))), ?_⟩
    obtain ⟨n, rfl⟩ : ∃ j, n = j + 1 := ⟨n - 1, by omega⟩
    have hp2 : 2 ^ (n + 1) = 2 * 2 ^ n := by rw [Nat.pow_succ]; omega
    have hp1 : 0 < 2 ^ n := Nat.pos_of_ne_zero (by simp)
    obtain ⟨a, g, gs, rfl, hs, hg, hgs⟩ := inv_c hx
    simp only [Sh.ds] at hgs
    obtain ⟨y1, w1, rfl, r_p, hgs⟩ := hgs.cons_inv
    obtain ⟨y2, w2, rfl, r_q, hgs⟩ := hgs.cons_inv
    have er := RpAll.nil_inv hgs
    subst er
    obtain ⟨o1, rfl⟩ := Sh.ref p r_p
    obtain ⟨o2, rfl⟩ := Sh.ref q r_q
    refine ⟨_, rfl, b, c, 3, rfl, by decide, by decide, hB, fun kd H1 kd0 kd1 hx1 hB1 => ?_⟩
    have S : Vs b c s H H1 := Vs.refl.bx hx1
    replace hst := hst.bx hB hx1
    have kt := hB.kt hx1
    replace r_p := r_p.on kt
    replace r_q := r_q.on kt
    replace hs := kt.sqt hs
    replace hg := kt.sqt hg
    clear hx kt hgs hB
    refine ⟨_, rfl, a, _, _, _, rfl, rfl, hs, at2, g, _, rfl, hg, rfl, .ref o1, [.ref o2], rfl, .ref o2, [], rfl, rfl, ?_⟩
    refine ⟨_, rfl, rfl, _, rfl, ?_⟩
    rw [dec_i]
    by_cases h1 : kd = 1
    · rw [decide_eq_true h1]
      refine iteT (B := _) (iteT (B := _) ?_)
      refine ⟨(show 4 ≤ sizeLine by decide), fun t h_t => ?_⟩
      have s_t : Sm H1 (upd H1 t (.tup [.str "con", .int 1, .str "B", .non])) := Sm.new h_t
      have r_t : Rp K (upd H1 t (.tup [.str "con", .int 1, .str "B", .non])) (.ref t) (.tuple _) := Rp.mk upd_same (RpAll.on (.cons sok (.cons (.int _) (.cons sok (.cons .non .nil)))) (KT.upd_new h_t))
      replace hB1 := hB1.keep fun a o e _ => s_t a o e
      replace hst := hst.sm s_t
      replace r_p := r_p.on (KT.same s_t)
      replace r_q := r_q.on (KT.same s_t)
      replace S := S.sm s_t
      clear h_t
      clear s_t
      generalize (upd H1 t (.tup [.str "con", .int 1, .str "B", .non])) = Hq1 at hB1 hst r_p r_q r_t S ⊢
      exact k _ _ (.con0 1 "B") st S hB1 hst (by simpa [Vl.d] using r_t) Pre.refl (by omega) (.con0 _ _ 8 1 _ rowB (by decide) at_B rfl)
    rw [decide_eq_false h1]
    refine iteF (A := _) ?_
    refine ⟨_, rfl, _, _, rfl, rfl, _, rfl, ?_⟩
    by_cases h2 : d ≤ 1
    · rw [decide_eq_true h2]
      refine iteT (B := _) ?_
      refine ⟨(show 4 ≤ sizeLine by decide), fun t h_t => ?_⟩
      have s_t : Sm H1 (upd H1 t (.tup [.str "con", .int 1, .str "B", .non])) := Sm.new h_t
      have r_t : Rp K (upd H1 t (.tup [.str "con", .int 1, .str "B", .non])) (.ref t) (.tuple _) := Rp.mk upd_same (RpAll.on (.cons sok (.cons (.int _) (.cons sok (.cons .non .nil)))) (KT.upd_new h_t))
      replace hB1 := hB1.keep fun a o e _ => s_t a o e
      replace hst := hst.sm s_t
      replace r_p := r_p.on (KT.same s_t)
      replace r_q := r_q.on (KT.same s_t)
      replace S := S.sm s_t
      clear h_t
      clear s_t
      generalize (upd H1 t (.tup [.str "con", .int 1, .str "B", .non])) = Hq2 at hB1 hst r_p r_q r_t S ⊢
      exact k _ _ (.con0 1 "B") st S hB1 hst (by simpa [Vl.d] using r_t) Pre.refl (by omega) (.con0 _ _ 8 1 _ rowB (by decide) at_B rfl)
    rw [decide_eq_false h2]
    refine iteF (A := _) ?_
    refine ⟨_, rfl, rfl, _, rfl, ?_⟩
    rw [dec_i]
    by_cases h3 : kd = 2
    · rw [decide_eq_true h3]
      refine iteT (B := _) ?_
      refine ⟨_, rfl, _, rfl, _, rfl, _, rfl, _, _, rfl, rfl, b, c, s, .ref o2, d - 1, m, q, st, rfl, by omega, gq, hB1, hst, by omega, r_q, fun r H2 v st2 hv2 hB2 hst2 rv pre len2 ok => ?_⟩
      replace r_p := r_p.on (hB1.ktv hst hv2)
      replace r_q := r_q.on (hB1.ktv hst hv2)
      replace S := S.trans hv2
      replace hB1 := hB2
      replace hst := hst2
      obtain ⟨ov, _, rfl, _⟩ := inv_tag v rv
      refine ⟨(show 4 ≤ sizeLine by decide), fun t h_t => ?_⟩
      have s_t : Sm H2 (upd H2 t (.tup [.str "con", .int 2, .str "C", .ref ov])) := Sm.new h_t
      have r_t : Rp K (upd H2 t (.tup [.str "con", .int 2, .str "C", .ref ov])) (.ref t) (.tuple _) := Rp.mk upd_same (RpAll.on (.cons sok (.cons (.int _) (.cons sok (.cons rv .nil)))) (KT.upd_new h_t))
      replace hB1 := hB1.keep fun a o e _ => s_t a o e
      replace hst := hst.sm s_t
      replace r_p := r_p.on (KT.same s_t)
      replace r_q := r_q.on (KT.same s_t)
      replace rv := rv.on (KT.same s_t)
      replace S := S.sm s_t
      clear h_t
      clear s_t
      generalize (upd H2 t (.tup [.str "con", .int 2, .str "C", .ref ov])) = Hq3 at hB1 hst r_p r_q rv r_t S ⊢
      exact k _ _ (.con1 2 "C" v) st2 S hB1 hst (by simpa [Vl.d] using r_t) pre (by omega) (.con1 (2 * n + 2) _ 8 2 _ rowC (.v 1) v (by decide) at_C rfl (by simpa [repl, pick] using ok.hi (by omega)))
    rw [decide_eq_false h3]
    refine iteF (A := _) ?_
    refine ⟨_, rfl, _, rfl, _, rfl, _, rfl, _, _, rfl, rfl, b, c, s, .ref o1, d - 1, m, p, st, rfl, by omega, gp, hB1, hst, by omega, r_p, fun r H2 v st2 hv2 hB2 hst2 rv pre len2 ok => ?_⟩
    replace r_p := r_p.on (hB1.ktv hst hv2)
    replace r_q := r_q.on (hB1.ktv hst hv2)
    replace S := S.trans hv2
    replace hB1 := hB2
    replace hst := hst2
    obtain ⟨ov, _, rfl, _⟩ := inv_tag v rv
    refine ⟨_, rfl, _, rfl, _, rfl, _, rfl, (show 2 ≤ sizeLine by decide), fun t1 h_t1 => ?_⟩
    have s_t1 : Sm H2 (upd H2 t1 (.tup [.ref o2, .ref o1])) := Sm.new h_t1
    have r_t1 : Rp K (upd H2 t1 (.tup [.ref o2, .ref o1])) (.ref t1) (.tuple _) := Rp.mk upd_same (RpAll.on (.cons r_q (.cons r_p .nil)) (KT.upd_new h_t1))
    replace hB1 := hB1.keep fun a o e _ => s_t1 a o e
    replace hst := hst.sm s_t1
    replace r_p := r_p.on (KT.same s_t1)
    replace r_q := r_q.on (KT.same s_t1)
    replace rv := rv.on (KT.same s_t1)
    replace S := S.sm s_t1
    clear h_t1
    clear s_t1
    generalize (upd H2 t1 (.tup [.ref o2, .ref o1])) = Hq4 at hB1 hst r_p r_q rv r_t1 S ⊢
    refine ⟨(show 3 ≤ sizeLine by decide), fun t2 h_t2 => ?_⟩
    have s_t2 : Sm Hq4 (upd Hq4 t2 (.tup [.str "c", .int 8, .ref t1])) := Sm.new h_t2
    have r_t2 : Rp K (upd Hq4 t2 (.tup [.str "c", .int 8, .ref t1])) (.ref t2) (.tuple _) := Rp.mk upd_same (RpAll.on (.cons sok (.cons (.int _) (.cons r_t1 .nil))) (KT.upd_new h_t2))
    replace hB1 := hB1.keep fun a o e _ => s_t2 a o e
    replace hst := hst.sm s_t2
    replace r_p := r_p.on (KT.same s_t2)
    replace r_q := r_q.on (KT.same s_t2)
    replace rv := rv.on (KT.same s_t2)
    replace r_t1 := r_t1.on (KT.same s_t2)
    replace S := S.sm s_t2
    clear h_t2
    clear s_t2
    generalize (upd Hq4 t2 (.tup [.str "c", .int 8, .ref t1])) = Hq5 at hB1 hst r_p r_q rv r_t1 r_t2 S ⊢
    refine ⟨_, rfl, _, rfl, _, _, rfl, rfl, b, c, s, .ref t2, d - 2, m + 1, .c 8 [q, p], st2, rfl, by omega, .own _ _ _ gq gp, hB1, hst, by omega, (by simpa [Sh.d, Sh.ds] using r_t2), fun r2 H3 v2 st3 hv3 hB3 hst3 rv2 pre2 len3 ok2 => ?_⟩
    replace r_p := r_p.on (hB1.ktv hst hv3)
    replace r_q := r_q.on (hB1.ktv hst hv3)
    replace rv := rv.on (hB1.ktv hst hv3)
    replace r_t1 := r_t1.on (hB1.ktv hst hv3)
    replace r_t2 := r_t2.on (hB1.ktv hst hv3)
    replace S := S.trans hv3
    replace hB1 := hB3
    replace hst := hst3
    obtain ⟨ov2, _, rfl, _⟩ := inv_tag v2 rv2
    refine ⟨(show 2 ≤ sizeLine by decide), fun t3 h_t3 => ?_⟩
    have s_t3 : Sm H3 (upd H3 t3 (.tup [.ref ov, .ref ov2])) := Sm.new h_t3
    have r_t3 : Rp K (upd H3 t3 (.tup [.ref ov, .ref ov2])) (.ref t3) (.tuple _) := Rp.mk upd_same (RpAll.on (.cons rv (.cons rv2 .nil)) (KT.upd_new h_t3))
    replace hB1 := hB1.keep fun a o e _ => s_t3 a o e
    replace hst := hst.sm s_t3
    replace r_p := r_p.on (KT.same s_t3)
    replace r_q := r_q.on (KT.same s_t3)
    replace rv := rv.on (KT.same s_t3)
    replace r_t1 := r_t1.on (KT.same s_t3)
    replace r_t2 := r_t2.on (KT.same s_t3)
    replace rv2 := rv2.on (KT.same s_t3)
    replace S := S.sm s_t3
    clear h_t3
    clear s_t3
    generalize (upd H3 t3 (.tup [.ref ov, .ref ov2])) = Hq6 at hB1 hst r_p r_q rv r_t1 r_t2 rv2 r_t3 S ⊢
    refine ⟨(show 2 ≤ sizeLine by decide), fun t4 h_t4 => ?_⟩
    have s_t4 : Sm Hq6 (upd Hq6 t4 (.tup [.str "tuple", .ref t3])) := Sm.new h_t4
    have r_t4 : Rp K (upd Hq6 t4 (.tup [.str "tuple", .ref t3])) (.ref t4) (.tuple _) := Rp.mk upd_same (RpAll.on (.cons sok (.cons r_t3 .nil)) (KT.upd_new h_t4))
    replace hB1 := hB1.keep fun a o e _ => s_t4 a o e
    replace hst := hst.sm s_t4
    replace r_p := r_p.on (KT.same s_t4)
    replace r_q := r_q.on (KT.same s_t4)
    replace rv := rv.on (KT.same s_t4)
    replace r_t1 := r_t1.on (KT.same s_t4)
    replace r_t2 := r_t2.on (KT.same s_t4)
    replace rv2 := rv2.on (KT.same s_t4)
    replace r_t3 := r_t3.on (KT.same s_t4)
    replace S := S.sm s_t4
    clear h_t4
    clear s_t4
    generalize (upd Hq6 t4 (.tup [.str "tuple", .ref t3])) = Hq7 at hB1 hst r_p r_q rv r_t1 r_t2 rv2 r_t3 r_t4 S ⊢
    refine ⟨(show 4 ≤ sizeLine by decide), fun t5 h_t5 => ?_⟩
    have s_t5 : Sm Hq7 (upd Hq7 t5 (.tup [.str "con", .int 0, .str "A", .ref t4])) := Sm.new h_t5
    have r_t5 : Rp K (upd Hq7 t5 (.tup [.str "con", .int 0, .str "A", .ref t4])) (.ref t5) (.tuple _) := Rp.mk upd_same (RpAll.on (.cons sok (.cons (.int _) (.cons sok (.cons r_t4 .nil)))) (KT.upd_new h_t5))
    replace hB1 := hB1.keep fun a o e _ => s_t5 a o e
    replace hst := hst.sm s_t5
    replace r_p := r_p.on (KT.same s_t5)
    replace r_q := r_q.on (KT.same s_t5)
    replace rv := rv.on (KT.same s_t5)
    replace r_t1 := r_t1.on (KT.same s_t5)
    replace r_t2 := r_t2.on (KT.same s_t5)
    replace rv2 := rv2.on (KT.same s_t5)
    replace r_t3 := r_t3.on (KT.same s_t5)
    replace r_t4 := r_t4.on (KT.same s_t5)
    replace S := S.sm s_t5
    clear h_t5
    clear s_t5
    generalize (upd Hq7 t5 (.tup [.str "con", .int 0, .str "A", .ref t4])) = Hq8 at hB1 hst r_p r_q rv r_t1 r_t2 rv2 r_t3 r_t4 r_t5 S ⊢
    exact k _ _ (.con1 0 "A" (.tup [v, v2])) st3 S hB1 hst (by simpa [Vl.d, Vl.ds] using r_t5) (pre.trans pre2) (by omega) (.con1 (2 * n + 2) _ 8 0 _ rowA (.t [.v 0, .c 8 [.v 1, .v 0]]) _ (by decide) at_A rfl (by simpa [repl, repls, pick] using VOk.pair _ _ _ _ _ _ (ok.pre pre2) ok2))
end
end K88

set_option Elab.async false
set_option maxRecDepth 100000
set_option linter.all false
set_option maxHeartbeats 40000000
namespace K88
open PySem L2 GD AG
section
variable {P : Program} {w : World} {K : PySem.W.Frag} {mg : Str → Option Value} {base : Heap} {A : Adr}
theorem in_full {r : Row} (h : r ∈ full) : rowAt full r.st r.idx = some r := rowAt_of uniq_full h
theorem Vs.upd {b c s D : Addr} {H H1 : Hp} {o : HO} (h : Vs b c s H H1) (hD : H D = none) : Vs b c s H (L2.upd H1 D o) := fun a u n1 n2 n3 e => by
  rw [upd_ne (ne_of_none e hD)]
  exact h a u n1 n2 n3 e
theorem BoxAt.upd {b c D : Addr} {H : Hp} {o : HO} (h : BoxAt H b c) (n1 : D ≠ b) (n2 : D ≠ c) : BoxAt (L2.upd H D o) b c := h.keep fun a u e z => by
  rw [upd_ne (by rcases z with z | z <;> subst z <;> first | exact n1.symm | exact n2.symm)]
  exact e
theorem StAt.upd {b c s D : Addr} {H : Hp} {o : HO} {st : List Vl} (h : StAt K H b c s st) (n : D ≠ s) (k : KT H (L2.upd H D o)) : StAt K (L2.upd H D o) b c s st := by
  obtain ⟨nb, nc, ⟨vs, e, r⟩, ok⟩ := h
  exact ⟨nb, nc, ⟨vs, by rw [upd_ne n.symm]; exact e, r.on k⟩, ok⟩
theorem con0_of {st : List Vl} {h m : Nat} {t i : Int} {as : List Sh} {x : Str} (n : t ≠ 0 ∧ t ≠ 1 ∧ t ≠ 2 ∧ t ≠ 3) (e : (rowAt full t i).map (fun r => (r.name, r.arg.isNone)) = some (x, true)) : VOk full st (h + 1) m (.c t as) (.con0 i x) := by
  cases q : rowAt full t i with
  | none => rw [q] at e; cases e
  | some r =>
    rw [q] at e
    simp only [Option.map_some, Option.some.injEq, Prod.mk.injEq, Option.isNone_iff_eq_none] at e
    obtain ⟨rfl, e2⟩ := e
    exact .con0 _ _ _ _ _ r n q e2
theorem row_some : ∃ r, rowAt full 6 1 = some r ∧ r.name = "Some" ∧ r.arg = some (.v 0) := ⟨_, rfl, rfl, rfl⟩
theorem row_cons : ∃ r, rowAt full 5 1 = some r ∧ r.name = "Cons" ∧ r.arg = some (.t [.v 0, .c 5 [.v 0]]) := ⟨_, rfl, rfl, rfl⟩
theorem value_step (T : Txt K mg A) (n : Nat) (G__law_value : FnOk P w K mg base CX0 (2 * n + 2) A.f__law_value A.d__law_value ["box", "shape", "store", "deep"] (spValR K n)) : FnOk P w K mg base CX0 (2 * n + 4) A.f__law_value A.d__law_value ["box", "shape", "store", "deep"] (spVal K n) := by
  have G__law_draw : FnOk P w K mg base CX0 2 A.f__law_draw A.d__law_draw _ _ := ok__law_draw T
  have G__law_stored : FnOk P w K mg base CX0 1 A.f__law_stored A.d__law_stored _ _ := ok_stored T
  have G__law_own_value : FnOk P w K mg base CX0 (2 * n + 3) A.f__law_own_value A.d__law_own_value _ _ := own_step T n G__law_value
  refine T.F__law_value.ok (k := 2 * n + 3) sc__law_value (fun vs H Q E h => ?_) (fun cdv Ar outer s H vs Q E hr h => ?_)
  · obtain ⟨b, c, s, x, d, m, sh, st, rfl, _⟩ := h
    rfl
  · obtain ⟨b, c, s, x, d, m, sh, st, rfl, hn, gs, hB, hst, hl, hx, k⟩ := h
    refine ⟨_, (pss_cons (ps_set (i := 4) sc__law_value.nd rfl (Or.inl rfl) (pe_ix (ixt (K := K) rfl) (pv 1) pe_int (fun _ _ => rfl))) (pss_cons (ps_if (pt_cmpR op_eq (pv 4) pe_str (nomark _)) (pss_one (ps_ret (pe_tup (pa_cons pe_str (pa_cons (pe_callTy call_tuple_of (by rfl) T.n_tuple (by decide +kernel) (pa_cons (pe_lc (own := [("part", 7)]) (g := gName 7) (tt := tYes) rfl sc__law_value.nd (pi_tup (pe_ix (ixt (K := K) rfl) (pv 1) pe_int (fun _ _ => rfl))) (blkOk_by (N := N__law_value) (sc := defScope s__law_value) (by decide +kernel)) (fun _ _ _ _ _ => (pg_name (i := 7) sc__law_value.nd rfl (Or.inl rfl))) (fun _ _ _ _ _ => pts_nil) (fun _ _ _ _ _ => (pe_call G__law_value (hr.mono (by first | decide | omega)) rfl T.g__law_value T.F__law_value.kp T.b__law_value .nil pass0 (pa_cons (pv 0) (pa_cons (pv 7) (pa_cons (pv 2) (pa_cons (pe_op op_sub (pv 3) pe_int) pa_nil))))))) pa_nil)) pa_nil))))) pss_nil) (pss_cons (ps_if (PW.pt (pw_and (pt_cmpR op_eq (pv 4) pe_str (nomark _)) (pw_and1 (pt_cmpR op_eq (pe_call G__law_draw (hr.mono (by first | decide | omega)) rfl T.g__law_draw T.F__law_draw.kp T.b__law_draw .nil pass0 (pa_cons (pv 0) (pa_cons pe_int pa_nil))) pe_int (nomark _))))) (pss_one (ps_ret (pe_tup (pa_cons pe_str (pa_cons (pe_tup (pa_cons (pe_tup (pa_cons pe_str (pa_cons pe_str (pa_cons (pe_tup (pa_cons pe_str (pa_cons pe_str pa_nil))) pa_nil)))) (pa_cons (pe_tup (pa_cons pe_str (pa_cons pe_str (pa_cons (pe_tup (pa_cons pe_str (pa_cons pe_int pa_nil))) pa_nil)))) pa_nil))) (pa_cons (pe_call G__law_draw (hr.mono (by first | decide | omega)) rfl T.g__law_draw T.F__law_draw.kp T.b__law_draw .nil pass0 (pa_cons (pv 0) (pa_cons pe_int pa_nil))) (pa_cons pe_non pa_nil))))))) pss_nil) (pss_cons (ps_if (pt_cmpR op_eq (pv 4) pe_str (nomark _)) (pss_one (ps_ret (pe_tup (pa_cons pe_str (pa_cons pe_str (pa_cons (pe_tup (pa_cons pe_str (pa_cons pe_str pa_nil))) (pa_cons pe_non pa_nil))))))) pss_nil) (pss_cons (ps_set (i := 5) sc__law_value.nd rfl (Or.inl rfl) (pe_ix (ixt (K := K) rfl) (pv 1) pe_int (fun _ _ => rfl))) (pss_cons (ps_if (pt_cmpR op_eq (pv 5) pe_int (nomark _)) (pss_one (ps_ret (pe_tup (pa_cons pe_str (pa_cons (pe_op op_sub (pe_call G__law_draw (hr.mono (by first | decide | omega)) rfl T.g__law_draw T.F__law_draw.kp T.b__law_draw .nil pass0 (pa_cons (pv 0) (pa_cons pe_int pa_nil))) pe_int) pa_nil))))) pss_nil) (pss_cons (ps_if (pt_cmpR op_eq (pv 5) pe_int (nomark _)) (pss_one (ps_ret (pe_tup (pa_cons pe_str (pa_cons (pe_tup pa_nil) pa_nil))))) pss_nil) (pss_cons (ps_if (pt_cmpR op_eq (pv 5) pe_int (nomark _)) (pss_one (ps_ret (pe_tup (pa_cons pe_str (pa_cons (pe_op op_add pe_int (pe_call G__law_draw (hr.mono (by first | decide | omega)) rfl T.g__law_draw T.F__law_draw.kp T.b__law_draw .nil pass0 (pa_cons (pv 0) (pa_cons pe_int pa_nil)))) (pa_cons pe_str (pa_cons pe_non pa_nil))))))) pss_nil) (pss_cons (ps_if (pt_cmpR op_eq (pv 5) pe_int (nomark _)) (pss_one (ps_ret (pe_ix (ixl (K := K) rfl) (pe_lst (pa_cons (pe_tup (pa_cons pe_str (pa_cons pe_int (pa_cons pe_str (pa_cons pe_non pa_nil))))) (pa_cons (pe_tup (pa_cons pe_str (pa_cons pe_int (pa_cons pe_str (pa_cons pe_non pa_nil))))) pa_nil))) (pe_call G__law_draw (hr.mono (by first | decide | omega)) rfl T.g__law_draw T.F__law_draw.kp T.b__law_draw .nil pass0 (pa_cons (pv 0) (pa_cons pe_int pa_nil))) (fun _ _ => rfl)))) pss_nil) (pss_cons (ps_if (pt_cmpR op_eq (pv 5) pe_int (nomark _)) (pss_one (ps_ret (pe_ix (ixl (K := K) rfl) (pe_lst (pa_cons (pe_tup (pa_cons pe_str (pa_cons pe_int (pa_cons pe_str (pa_cons pe_non pa_nil))))) (pa_cons (pe_tup (pa_cons pe_str (pa_cons pe_int (pa_cons pe_str (pa_cons pe_non pa_nil))))) (pa_cons (pe_tup (pa_cons pe_str (pa_cons pe_int (pa_cons pe_str (pa_cons pe_non pa_nil))))) pa_nil)))) (pe_call G__law_draw (hr.mono (by first | decide | omega)) rfl T.g__law_draw T.F__law_draw.kp T.b__law_draw .nil pass0 (pa_cons (pv 0) (pa_cons pe_int pa_nil))) (fun _ _ => rfl)))) pss_nil) (pss_cons (ps_if (pt_cmpR op_eq (pv 5) pe_int (nomark _)) (pss_one (ps_ret (pe_call G__law_stored (hr.mono (by first | decide | omega)) rfl T.g__law_stored T.F__law_stored.kp T.b__law_stored .nil pass0 (pa_cons (pv 2) (pa_cons (pe_call G__law_value (hr.mono (by first | decide | omega)) rfl T.g__law_value T.F__law_value.kp T.b__law_value .nil pass0 (pa_cons (pv 0) (pa_cons (pe_ix (ixt (K := K) rfl) (pe_ix (ixt (K := K) rfl) (pv 1) pe_int (fun _ _ => rfl)) pe_int (fun _ _ => rfl)) (pa_cons (pv 2) (pa_cons (pe_op op_sub (pv 3) pe_int) pa_nil))))) pa_nil))))) pss_nil) (pss_cons (ps_if (pt_cmpR op_eq (pv 5) pe_int (nomark _)) (pss_one (ps_ret (pe_call G__law_own_value (hr.mono (by first | decide | omega)) rfl T.g__law_own_value T.F__law_own_value.kp T.b__law_own_value .nil pass0 (pa_cons (pv 0) (pa_cons (pv 1) (pa_cons (pv 2) (pa_cons (pv 3) pa_nil))))))) pss_nil) (pss_cons (ps_if (PW.pt (pw_or (pt_cmpR op_le (pv 3) pe_int (nomark _)) (pw_or1 (pt_cmpR op_eq (pe_call G__law_draw (hr.mono (by first | decide | omega)) rfl T.g__law_draw T.F__law_draw.kp T.b__law_draw .nil pass0 (pa_cons (pv 0) (pa_cons pe_int pa_nil))) pe_int (nomark _))))) (pss_one (ps_ret (pe_tup (pa_cons pe_str (pa_cons pe_int (pa_cons (pe_ix (ixl (K := K) rfl) (pe_lst (pa_cons pe_str (pa_cons pe_str pa_nil))) (pe_op op_sub (pv 5) pe_int) (fun _ _ => rfl)) (pa_cons pe_non pa_nil))))))) pss_nil) (pss_cons (ps_set (i := 6) sc__law_value.nd rfl (Or.inl rfl) (pe_call G__law_value (hr.mono (by first | decide | omega)) rfl T.g__law_value T.F__law_value.kp T.b__law_value .nil pass0 (pa_cons (pv 0) (pa_cons (pe_ix (ixt (K := K) rfl) (pe_ix (ixt (K := K) rfl) (pv 1) pe_int (fun _ _ => rfl)) pe_int (fun _ _ => rfl)) (pa_cons (pv 2) (pa_cons (pe_op op_sub (pv 3) pe_int) pa_nil)))))) (pss_cons (ps_if (pt_cmpR op_eq (pv 5) pe_int (nomark _)) (pss_one (ps_ret (pe_tup (pa_cons pe_str (pa_cons pe_int (pa_cons pe_str (pa_cons (pv 6) pa_nil))))))) pss_nil) (pss_one (ps_ret (pe_tup (pa_cons pe_str (pa_cons pe_int (pa_cons pe_str (pa_cons (pe_tup (pa_cons pe_str (pa_cons (pe_tup (pa_cons (pv 6) (pa_cons (pe_call G__law_value (hr.mono (by first | decide | omega)) rfl T.g__law_value T.F__law_value.kp T.b__law_value .nil pass0 (pa_cons (pv 0) (pa_cons (pv 1) (pa_cons (pv 2) (pa_cons (pe_op op_sub (pv 3) pe_int) pa_nil))))) pa_nil))) pa_nil))) pa_nil)))))))))))))))))))))), ?_⟩
    have hp1 : 0 < 2 ^ n := Nat.pos_of_ne_zero (by simp)
    have S : Vs b c s H H := Vs.refl
    cases gs with
    | pair m p q gp gq =>
      obtain ⟨n, rfl⟩ : ∃ j, n = j + 1 := ⟨n - 1, by omega⟩
      have hp2 : 2 ^ (n + 1) = 2 * 2 ^ n := by rw [Nat.pow_succ]; omega
      have hp3 : 0 < 2 ^ n := Nat.pos_of_ne_zero (by simp)
      obtain ⟨a, g, gs, rfl, hs, hg, hgs⟩ := inv_t hx
      simp only [Sh.ds] at hgs
      obtain ⟨y1, w1, rfl, r_p, hgs⟩ := hgs.cons_inv
      obtain ⟨y2, w2, rfl, r_q, hgs⟩ := hgs.cons_inv
      have er := RpAll.nil_inv hgs
      subst er
      refine ⟨_, rfl, a, _, _, _, rfl, rfl, hs, at0, ?_⟩
      refine ⟨_, rfl, rfl, _, rfl, iteY (by decide +kernel) ?_⟩
      refine ⟨_, rfl, a, _, _, _, rfl, rfl, hs, at1, g, rfl, ⟨_, hg⟩, fun D hD => ?_⟩
      have hD0 := hD
      have nDb : D ≠ b := by obtain ⟨o, e⟩ := hB.at_b; exact (ne_of_none e hD).symm
      have nDc : D ≠ c := by obtain ⟨o, e⟩ := hB.at_c; exact (ne_of_none e hD).symm
      have nDs : D ≠ s := by obtain ⟨vs, e, _⟩ := hst.at_; exact (ne_of_none e hD).symm
      refine lc_tup (xs := [y1, y2]) (fun i H' => ∃ (st' : List Vl) (acc : List V) (vs : List Vl), Vs b c s H H' ∧ BoxAt H' b c ∧ StAt K H' b c s st' ∧ H' D = some (.lst acc) ∧ RpAll K H' acc (Vl.ds vs) ∧ acc.length = i ∧ Pre st st' ∧ st'.length + i ≤ st.length + i * 2 ^ n ∧
        (i = 0 → vs = []) ∧ (i = 1 → ∃ v, vs = [v] ∧ VOk full st' (2 * n + 1) st'.length p v) ∧ (i = 2 → ∃ v u, vs = [v, u] ∧ VOk full st' (2 * n + 1) st'.length p v ∧ VOk full st' (2 * n + 1) st'.length q u)) ?_ ?_ ?_ ?_
      · exact ⟨st, [], [], Vs.refl.upd hD, hB.upd nDb nDc, hst.upd nDs (KT.upd_new hD), upd_same, .nil, rfl, Pre.refl, by omega, fun _ => rfl, fun z => by omega, fun z => by omega⟩
      · rintro i H' _ ⟨st', acc, vs, hv, _⟩
        exact (hB.ktv hst hv).sqt hg
      · rintro i y H' hy ⟨st', acc, vs, hv, hB', hst', hacc, hra, hal, pre, hlen, h0, h1, h2⟩
        have hi : i = 0 ∨ i = 1 := by
          have := (List.getElem?_eq_some_iff.mp hy).1
          simp only [List.length_cons, List.length_nil] at this
          omega
        have kt := hB.ktv hst hv
        refine ⟨rfl, tYes_do ?_⟩
        rcases hi with rfl | rfl
        · simp only [List.getElem?_cons_zero, Option.some.injEq] at hy
          subst hy
          obtain rfl := h0 rfl
          refine ⟨_, rfl, _, rfl, _, rfl, _, rfl, _, _, rfl, rfl, b, c, s, y1, d - 1, m, p, st', rfl, by omega, gp, hB', hst', by omega, r_p.on kt, fun r H2 v st2 hv2 hB2 hst2 rv pre2 len2 ok => ?_⟩
          have hD2 := hv2 _ _ nDb nDc nDs hacc
          have ktu : KT H2 (upd H2 D (.lst (acc ++ [r]))) := KT.upd_lst (NT.lst hD2)
          have kt2 := hB'.ktv hst' hv2
          refine ⟨acc, hD2, small_lt (by omega), st2, _, [v], (hv.trans hv2).upd hD0, hB2.upd nDb nDc, hst2.upd nDs ktu, upd_same, ?_, by simp [hal], pre.trans pre2, by omega, fun z => by omega, fun _ => ⟨v, rfl, ok⟩, fun z => by omega⟩
          exact RpAll.app ((hra.on kt2).on ktu) (.cons (rv.on ktu) .nil)
        · simp only [List.getElem?_cons_succ, List.getElem?_cons_zero, Option.some.injEq] at hy
          subst hy
          obtain ⟨v0, rfl, ok0⟩ := h1 rfl
          refine ⟨_, rfl, _, rfl, _, rfl, _, rfl, _, _, rfl, rfl, b, c, s, y2, d - 1, m, q, st', rfl, by omega, gq, hB', hst', by omega, r_q.on kt, fun r H2 v st2 hv2 hB2 hst2 rv pre2 len2 ok => ?_⟩
          have hD2 := hv2 _ _ nDb nDc nDs hacc
          have ktu : KT H2 (upd H2 D (.lst (acc ++ [r]))) := KT.upd_lst (NT.lst hD2)
          have kt2 := hB'.ktv hst' hv2
          refine ⟨acc, hD2, small_lt (by omega), st2, _, [v0, v], (hv.trans hv2).upd hD0, hB2.upd nDb nDc, hst2.upd nDs ktu, upd_same, ?_, by simp [hal], pre.trans pre2, by omega, fun z => by omega, fun z => by omega, fun _ => ⟨v0, v, rfl, ok0.pre pre2, ok⟩⟩
          have := RpAll.app ((hra.on kt2).on ktu) (.cons (rv.on ktu) .nil)
          simpa [Vl.ds] using this
      · rintro H' ⟨st', acc, vs, hv, hB', hst', hacc, hra, hal, pre, hlen, h0, h1, h2⟩
        obtain ⟨v, u, rfl, ok1, ok2⟩ := h2 rfl
        refine ⟨D, _, rfl, .inl ⟨SqL.of hacc, fun t h_t => ?_⟩⟩
        have s_t : Sm H' (upd H' t (.tup acc)) := Sm.new h_t
        have r_t : Rp K (upd H' t (.tup acc)) (.ref t) (.tuple (Vl.ds [v, u])) := Rp.mk upd_same (hra.on (KT.upd_new h_t))
        replace hB' := hB'.keep fun a o e _ => s_t a o e
        replace hst' := hst'.sm s_t
        replace hv := hv.sm s_t
        generalize (upd H' t (.tup acc)) = Hz at hv hB' hst' r_t ⊢
        refine ⟨(show 2 ≤ sizeLine by decide), fun t2 h_t2 => ?_⟩
        have s_t2 : Sm Hz (upd Hz t2 (.tup [.str "tuple", .ref t])) := Sm.new h_t2
        have r_t2 : Rp K (upd Hz t2 (.tup [.str "tuple", .ref t])) (.ref t2) (.tuple _) := Rp.mk upd_same (RpAll.on (.cons sok (.cons r_t .nil)) (KT.upd_new h_t2))
        replace hB' := hB'.keep fun a o e _ => s_t2 a o e
        replace hst' := hst'.sm s_t2
        replace r_t := r_t.on (KT.same s_t2)
        replace hv := hv.sm s_t2
        clear h_t2
        clear s_t2
        generalize (upd Hz t2 (.tup [.str "tuple", .ref t])) = Hq1 at hB' hst' r_t r_t2 hv ⊢
        have hlen' : st'.length + 2 ≤ st.length + 2 * 2 ^ n := hlen
        exact k _ _ (.tup [v, u]) st' hv hB' hst' (by simpa [Vl.d] using r_t2) pre (by omega) (.pair (2 * n + 2) _ _ _ _ _ (ok1.hi (by omega)) (ok2.hi (by omega)))
    | fn m p q gp gq =>
      obtain ⟨a, y, z, rfl, hs, _⟩ := inv_f hx
      refine ⟨_, rfl, a, _, _, _, rfl, rfl, hs, at0, ?_⟩
      refine ⟨_, rfl, rfl, _, rfl, iteN (by decide +kernel) ?_⟩
      refine ⟨_, rfl, rfl, _, rfl, iteY (by decide +kernel) ?_⟩
      refine ⟨_, rfl, b, c, 2, rfl, by decide, by decide, hB, fun r1 H1 r10 r11 hx1 hB1 => ?_⟩
      replace hst := hst.bx hB hx1
      replace S := S.bx hx1
      replace hB := hB1
      refine ⟨rfl, _, rfl, ?_⟩
      rw [dec_i]
      by_cases h0 : r1 = 0
      · rw [decide_eq_true h0]
        refine iteT (B := _) ?_
        refine ⟨(show 2 ≤ sizeLine by decide), fun a1 h_a1 => ?_⟩
        have s_a1 : Sm H1 (upd H1 a1 (.tup [.str "var", .str "x"])) := Sm.new h_a1
        have r_a1 : Rp K (upd H1 a1 (.tup [.str "var", .str "x"])) (.ref a1) (.tuple _) := Rp.mk upd_same (RpAll.on (.cons sok (.cons sok .nil)) (KT.upd_new h_a1))
        replace hB := hB.keep fun a o e _ => s_a1 a o e
        replace hst := hst.sm s_a1
        replace S := S.sm s_a1
        clear h_a1
        clear s_a1
        generalize (upd H1 a1 (.tup [.str "var", .str "x"])) = Hq2 at hB hst r_a1 S ⊢
        refine ⟨(show 3 ≤ sizeLine by decide), fun a2 h_a2 => ?_⟩
        have s_a2 : Sm Hq2 (upd Hq2 a2 (.tup [.str "f", .str "x", .ref a1])) := Sm.new h_a2
        have r_a2 : Rp K (upd Hq2 a2 (.tup [.str "f", .str "x", .ref a1])) (.ref a2) (.tuple _) := Rp.mk upd_same (RpAll.on (.cons sok (.cons sok (.cons r_a1 .nil))) (KT.upd_new h_a2))
        replace hB := hB.keep fun a o e _ => s_a2 a o e
        replace hst := hst.sm s_a2
        replace r_a1 := r_a1.on (KT.same s_a2)
        replace S := S.sm s_a2
        clear h_a2
        clear s_a2
        generalize (upd Hq2 a2 (.tup [.str "f", .str "x", .ref a1])) = Hq3 at hB hst r_a1 r_a2 S ⊢
        refine ⟨(show 2 ≤ sizeLine by decide), fun a3 h_a3 => ?_⟩
        have s_a3 : Sm Hq3 (upd Hq3 a3 (.tup [.str "int", .int 3])) := Sm.new h_a3
        have r_a3 : Rp K (upd Hq3 a3 (.tup [.str "int", .int 3])) (.ref a3) (.tuple _) := Rp.mk upd_same (RpAll.on (.cons sok (.cons (.int _) .nil)) (KT.upd_new h_a3))
        replace hB := hB.keep fun a o e _ => s_a3 a o e
        replace hst := hst.sm s_a3
        replace r_a1 := r_a1.on (KT.same s_a3)
        replace r_a2 := r_a2.on (KT.same s_a3)
        replace S := S.sm s_a3
        clear h_a3
        clear s_a3
        generalize (upd Hq3 a3 (.tup [.str "int", .int 3])) = Hq4 at hB hst r_a1 r_a2 r_a3 S ⊢
        refine ⟨(show 3 ≤ sizeLine by decide), fun a4 h_a4 => ?_⟩
        have s_a4 : Sm Hq4 (upd Hq4 a4 (.tup [.str "g", .str "y", .ref a3])) := Sm.new h_a4
        have r_a4 : Rp K (upd Hq4 a4 (.tup [.str "g", .str "y", .ref a3])) (.ref a4) (.tuple _) := Rp.mk upd_same (RpAll.on (.cons sok (.cons sok (.cons r_a3 .nil))) (KT.upd_new h_a4))
        replace hB := hB.keep fun a o e _ => s_a4 a o e
        replace hst := hst.sm s_a4
        replace r_a1 := r_a1.on (KT.same s_a4)
        replace r_a2 := r_a2.on (KT.same s_a4)
        replace r_a3 := r_a3.on (KT.same s_a4)
        replace S := S.sm s_a4
        clear h_a4
        clear s_a4
        generalize (upd Hq4 a4 (.tup [.str "g", .str "y", .ref a3])) = Hq5 at hB hst r_a1 r_a2 r_a3 r_a4 S ⊢
        refine ⟨(show 2 ≤ sizeLine by decide), fun a5 h_a5 => ?_⟩
        have s_a5 : Sm Hq5 (upd Hq5 a5 (.tup [.ref a2, .ref a4])) := Sm.new h_a5
        have r_a5 : Rp K (upd Hq5 a5 (.tup [.ref a2, .ref a4])) (.ref a5) (.tuple _) := Rp.mk upd_same (RpAll.on (.cons r_a2 (.cons r_a4 .nil)) (KT.upd_new h_a5))
        replace hB := hB.keep fun a o e _ => s_a5 a o e
        replace hst := hst.sm s_a5
        replace r_a1 := r_a1.on (KT.same s_a5)
        replace r_a2 := r_a2.on (KT.same s_a5)
        replace r_a3 := r_a3.on (KT.same s_a5)
        replace r_a4 := r_a4.on (KT.same s_a5)
        replace S := S.sm s_a5
        clear h_a5
        clear s_a5
        generalize (upd Hq5 a5 (.tup [.ref a2, .ref a4])) = Hq6 at hB hst r_a1 r_a2 r_a3 r_a4 r_a5 S ⊢
        refine ⟨_, rfl, b, c, 2, rfl, by decide, by decide, hB, fun r2 H2 r20 r21 hx2 hB2 => ?_⟩
        replace hst := hst.bx hB hx2
        replace r_a1 := r_a1.on (hB.kt hx2)
        replace r_a2 := r_a2.on (hB.kt hx2)
        replace r_a3 := r_a3.on (hB.kt hx2)
        replace r_a4 := r_a4.on (hB.kt hx2)
        replace r_a5 := r_a5.on (hB.kt hx2)
        replace S := S.bx hx2
        replace hB := hB2
        refine ⟨(show 4 ≤ sizeLine by decide), fun a6 h_a6 => ?_⟩
        have s_a6 : Sm H2 (upd H2 a6 (.tup [.str "fix", .ref a5, .int r2, .non])) := Sm.new h_a6
        have r_a6 : Rp K (upd H2 a6 (.tup [.str "fix", .ref a5, .int r2, .non])) (.ref a6) (.tuple _) := Rp.mk upd_same (RpAll.on (.cons sok (.cons r_a5 (.cons (.int _) (.cons .non .nil)))) (KT.upd_new h_a6))
        replace hB := hB.keep fun a o e _ => s_a6 a o e
        replace hst := hst.sm s_a6
        replace r_a1 := r_a1.on (KT.same s_a6)
        replace r_a2 := r_a2.on (KT.same s_a6)
        replace r_a3 := r_a3.on (KT.same s_a6)
        replace r_a4 := r_a4.on (KT.same s_a6)
        replace r_a5 := r_a5.on (KT.same s_a6)
        replace S := S.sm s_a6
        clear h_a6
        clear s_a6
        generalize (upd H2 a6 (.tup [.str "fix", .ref a5, .int r2, .non])) = Hq7 at hB hst r_a1 r_a2 r_a3 r_a4 r_a5 r_a6 S ⊢
        exact k _ _ (.oth "fix" [_, _, _]) st S hB hst r_a6 Pre.refl (by omega) (.fn _ _ _ _ _ _ (.inr rfl))
      rw [decide_eq_false h0]
      refine iteF (A := _) ?_
      refine ⟨_, rfl, rfl, _, rfl, iteY (by decide +kernel) ?_⟩
      refine ⟨(show 2 ≤ sizeLine by decide), fun a1 h_a1 => ?_⟩
      have s_a1 : Sm H1 (upd H1 a1 (.tup [.str "var", .str "x"])) := Sm.new h_a1
      have r_a1 : Rp K (upd H1 a1 (.tup [.str "var", .str "x"])) (.ref a1) (.tuple _) := Rp.mk upd_same (RpAll.on (.cons sok (.cons sok .nil)) (KT.upd_new h_a1))
      replace hB := hB.keep fun a o e _ => s_a1 a o e
      replace hst := hst.sm s_a1
      replace S := S.sm s_a1
      clear h_a1
      clear s_a1
      generalize (upd H1 a1 (.tup [.str "var", .str "x"])) = Hq8 at hB hst r_a1 S ⊢
      refine ⟨(show 4 ≤ sizeLine by decide), fun a2 h_a2 => ?_⟩
      have s_a2 : Sm Hq8 (upd Hq8 a2 (.tup [.str "fun", .str "x", .ref a1, .non])) := Sm.new h_a2
      have r_a2 : Rp K (upd Hq8 a2 (.tup [.str "fun", .str "x", .ref a1, .non])) (.ref a2) (.tuple _) := Rp.mk upd_same (RpAll.on (.cons sok (.cons sok (.cons r_a1 (.cons .non .nil)))) (KT.upd_new h_a2))
      replace hB := hB.keep fun a o e _ => s_a2 a o e
      replace hst := hst.sm s_a2
      replace r_a1 := r_a1.on (KT.same s_a2)
      replace S := S.sm s_a2
      clear h_a2
      clear s_a2
      generalize (upd Hq8 a2 (.tup [.str "fun", .str "x", .ref a1, .non])) = Hq9 at hB hst r_a1 r_a2 S ⊢
      exact k _ _ (.oth "fun" [_, _, _]) st S hB hst r_a2 Pre.refl (by omega) (.fn _ _ _ _ _ _ (.inl rfl))
    | leaf m t ht =>
      obtain ⟨a, g, gs, rfl, hs, hg, hgs⟩ := inv_c hx
      refine ⟨_, rfl, a, _, _, _, rfl, rfl, hs, at0, ?_⟩
      refine ⟨_, rfl, rfl, _, rfl, iteN (by decide +kernel) ?_⟩
      refine ⟨_, rfl, rfl, _, rfl, iteN (by decide +kernel) (iteF (A := _) ?_)⟩
      refine ⟨_, rfl, rfl, _, rfl, iteN (by decide +kernel) ?_⟩
      refine ⟨_, rfl, a, _, _, _, rfl, rfl, hs, at1, ?_⟩
      rcases ht with rfl | rfl | rfl | rfl | rfl
      · refine ⟨_, rfl, rfl, _, rfl, iteY (by decide) ?_⟩
        refine ⟨_, rfl, b, c, 9, rfl, by decide, by decide, hB, fun r1 H1 r10 r11 hx1 hB1 => ?_⟩
        replace hst := hst.bx hB hx1
        replace S := S.bx hx1
        replace hB := hB1
        refine ⟨_, _, rfl, rfl, (show 2 ≤ sizeLine by decide), fun t h_t => ?_⟩
        have s_t : Sm H1 (upd H1 t (.tup [.str "int", .int (r1 - 4)])) := Sm.new h_t
        have r_t : Rp K (upd H1 t (.tup [.str "int", .int (r1 - 4)])) (.ref t) (.tuple _) := Rp.mk upd_same (RpAll.on (.cons sok (.cons (.int _) .nil)) (KT.upd_new h_t))
        replace hB := hB.keep fun a o e _ => s_t a o e
        replace hst := hst.sm s_t
        replace S := S.sm s_t
        clear h_t
        clear s_t
        generalize (upd H1 t (.tup [.str "int", .int (r1 - 4)])) = Hq10 at hB hst r_t S ⊢
        exact k _ _ (.int (r1 - 4)) st S hB hst (by simpa [Vl.d] using r_t) Pre.refl (by omega) (.int _ _ _)
      · refine ⟨_, rfl, rfl, _, rfl, iteN (by decide) ?_⟩
        refine ⟨_, rfl, rfl, _, rfl, iteY (by decide) ?_⟩
        refine ⟨Nat.zero_le _, fun e h_e => ?_⟩
        have s_e : Sm H (upd H e (.tup [])) := Sm.new h_e
        have r_e : Rp K (upd H e (.tup [])) (.ref e) (.tuple _) := Rp.mk upd_same (RpAll.on (.nil) (KT.upd_new h_e))
        replace hB := hB.keep fun a o e _ => s_e a o e
        replace hst := hst.sm s_e
        replace S := S.sm s_e
        clear h_e
        clear s_e
        generalize (upd H e (.tup [])) = Hq11 at hB hst r_e S ⊢
        refine ⟨(show 2 ≤ sizeLine by decide), fun t h_t => ?_⟩
        have s_t : Sm Hq11 (upd Hq11 t (.tup [.str "tuple", .ref e])) := Sm.new h_t
        have r_t : Rp K (upd Hq11 t (.tup [.str "tuple", .ref e])) (.ref t) (.tuple _) := Rp.mk upd_same (RpAll.on (.cons sok (.cons r_e .nil)) (KT.upd_new h_t))
        replace hB := hB.keep fun a o e _ => s_t a o e
        replace hst := hst.sm s_t
        replace r_e := r_e.on (KT.same s_t)
        replace S := S.sm s_t
        clear h_t
        clear s_t
        generalize (upd Hq11 t (.tup [.str "tuple", .ref e])) = Hq12 at hB hst r_e r_t S ⊢
        exact k _ _ (.tup []) st S hB hst (by simpa [Vl.d, Vl.ds] using r_t) Pre.refl (by omega) (.unit _ _)
      · refine ⟨_, rfl, rfl, _, rfl, iteN (by decide) ?_⟩
        refine ⟨_, rfl, rfl, _, rfl, iteN (by decide) ?_⟩
        refine ⟨_, rfl, rfl, _, rfl, iteN (by decide) ?_⟩
        refine ⟨_, rfl, rfl, _, rfl, iteY (by decide) ?_⟩
        refine ⟨(show 4 ≤ sizeLine by decide), fun e h_e => ?_⟩
        have s_e : Sm H (upd H e (.tup [.str "con", .int 0, .str "False", .non])) := Sm.new h_e
        have r_e : Rp K (upd H e (.tup [.str "con", .int 0, .str "False", .non])) (.ref e) (.tuple _) := Rp.mk upd_same (RpAll.on (.cons sok (.cons (.int _) (.cons sok (.cons .non .nil)))) (KT.upd_new h_e))
        replace hB := hB.keep fun a o e _ => s_e a o e
        replace hst := hst.sm s_e
        replace S := S.sm s_e
        clear h_e
        clear s_e
        generalize (upd H e (.tup [.str "con", .int 0, .str "False", .non])) = Hq13 at hB hst r_e S ⊢
        refine ⟨(show 4 ≤ sizeLine by decide), fun t h_t => ?_⟩
        have s_t : Sm Hq13 (upd Hq13 t (.tup [.str "con", .int 1, .str "True", .non])) := Sm.new h_t
        have r_t : Rp K (upd Hq13 t (.tup [.str "con", .int 1, .str "True", .non])) (.ref t) (.tuple _) := Rp.mk upd_same (RpAll.on (.cons sok (.cons (.int _) (.cons sok (.cons .non .nil)))) (KT.upd_new h_t))
        replace hB := hB.keep fun a o e _ => s_t a o e
        replace hst := hst.sm s_t
        replace r_e := r_e.on (KT.same s_t)
        replace S := S.sm s_t
        clear h_t
        clear s_t
        generalize (upd Hq13 t (.tup [.str "con", .int 1, .str "True", .non])) = Hq14 at hB hst r_e r_t S ⊢
        refine ⟨(show 2 ≤ sizeLine by decide), fun L h_L => ?_⟩
        have s_L : Sm Hq14 (upd Hq14 L (.lst [.ref e, .ref t])) := Sm.new h_L
        have o_L : (upd Hq14 L (.lst [.ref e, .ref t])) L = some (.lst [.ref e, .ref t]) := upd_same
        replace hB := hB.keep fun a o e _ => s_L a o e
        replace hst := hst.sm s_L
        replace r_e := r_e.on (KT.same s_L)
        replace r_t := r_t.on (KT.same s_L)
        replace S := S.sm s_L
        clear h_L
        clear s_L
        generalize (upd Hq14 L (.lst [.ref e, .ref t])) = Hq15 at hB hst r_e r_t o_L S ⊢
        refine ⟨_, rfl, b, c, 2, rfl, by decide, by decide, hB, fun r1 H1 r10 r11 hx1 hB1 => ?_⟩
        replace hst := hst.bx hB hx1
        replace r_e := r_e.on (hB.kt hx1)
        replace r_t := r_t.on (hB.kt hx1)
        replace o_L := (hx1 _ (hB.off2 o_L).1 (hB.off2 o_L).2).trans o_L
        replace S := S.bx hx1
        replace hB := hB1
        have h2 : r1 = 0 ∨ r1 = 1 := by omega
        rcases h2 with rfl | rfl
        · exact ⟨L, _, _, _, rfl, rfl, SqL.of o_L, rfl, k _ _ (.con0 0 "False") st S hB hst (by simpa [Vl.d] using r_e) Pre.refl (by omega) (con0_of (by decide) (by decide +kernel))⟩
        · exact ⟨L, _, _, _, rfl, rfl, SqL.of o_L, rfl, k _ _ (.con0 1 "True") st S hB hst (by simpa [Vl.d] using r_t) Pre.refl (by omega) (con0_of (by decide) (by decide +kernel))⟩
      · refine ⟨_, rfl, rfl, _, rfl, iteN (by decide) ?_⟩
        refine ⟨_, rfl, rfl, _, rfl, iteN (by decide) ?_⟩
        refine ⟨_, rfl, rfl, _, rfl, iteY (by decide) ?_⟩
        refine ⟨_, rfl, b, c, 3, rfl, by decide, by decide, hB, fun r1 H1 r10 r11 hx1 hB1 => ?_⟩
        replace hst := hst.bx hB hx1
        replace S := S.bx hx1
        replace hB := hB1
        refine ⟨_, _, rfl, rfl, (show 4 ≤ sizeLine by decide), fun t h_t => ?_⟩
        have s_t : Sm H1 (upd H1 t (.tup [.str "packet", .int (4 + r1), .str "E", .non])) := Sm.new h_t
        have r_t : Rp K (upd H1 t (.tup [.str "packet", .int (4 + r1), .str "E", .non])) (.ref t) (.tuple _) := Rp.mk upd_same (RpAll.on (.cons sok (.cons (.int _) (.cons sok (.cons .non .nil)))) (KT.upd_new h_t))
        replace hB := hB.keep fun a o e _ => s_t a o e
        replace hst := hst.sm s_t
        replace S := S.sm s_t
        clear h_t
        clear s_t
        generalize (upd H1 t (.tup [.str "packet", .int (4 + r1), .str "E", .non])) = Hq16 at hB hst r_t S ⊢
        exact k _ _ (.oth "packet" [_, _, _]) st S hB hst r_t Pre.refl (by omega) (.exn _ _ _)
      · refine ⟨_, rfl, rfl, _, rfl, iteN (by decide) ?_⟩
        refine ⟨_, rfl, rfl, _, rfl, iteN (by decide) ?_⟩
        refine ⟨_, rfl, rfl, _, rfl, iteN (by decide) ?_⟩
        refine ⟨_, rfl, rfl, _, rfl, iteN (by decide) ?_⟩
        refine ⟨_, rfl, rfl, _, rfl, iteY (by decide) ?_⟩
        refine ⟨(show 4 ≤ sizeLine by decide), fun e h_e => ?_⟩
        have s_e : Sm H (upd H e (.tup [.str "con", .int 0, .str "Less", .non])) := Sm.new h_e
        have r_e : Rp K (upd H e (.tup [.str "con", .int 0, .str "Less", .non])) (.ref e) (.tuple _) := Rp.mk upd_same (RpAll.on (.cons sok (.cons (.int _) (.cons sok (.cons .non .nil)))) (KT.upd_new h_e))
        replace hB := hB.keep fun a o e _ => s_e a o e
        replace hst := hst.sm s_e
        replace S := S.sm s_e
        clear h_e
        clear s_e
        generalize (upd H e (.tup [.str "con", .int 0, .str "Less", .non])) = Hq17 at hB hst r_e S ⊢
        refine ⟨(show 4 ≤ sizeLine by decide), fun t h_t => ?_⟩
        have s_t : Sm Hq17 (upd Hq17 t (.tup [.str "con", .int 1, .str "Equal", .non])) := Sm.new h_t
        have r_t : Rp K (upd Hq17 t (.tup [.str "con", .int 1, .str "Equal", .non])) (.ref t) (.tuple _) := Rp.mk upd_same (RpAll.on (.cons sok (.cons (.int _) (.cons sok (.cons .non .nil)))) (KT.upd_new h_t))
        replace hB := hB.keep fun a o e _ => s_t a o e
        replace hst := hst.sm s_t
        replace r_e := r_e.on (KT.same s_t)
        replace S := S.sm s_t
        clear h_t
        clear s_t
        generalize (upd Hq17 t (.tup [.str "con", .int 1, .str "Equal", .non])) = Hq18 at hB hst r_e r_t S ⊢
        refine ⟨(show 4 ≤ sizeLine by decide), fun u h_u => ?_⟩
        have s_u : Sm Hq18 (upd Hq18 u (.tup [.str "con", .int 2, .str "Greater", .non])) := Sm.new h_u
        have r_u : Rp K (upd Hq18 u (.tup [.str "con", .int 2, .str "Greater", .non])) (.ref u) (.tuple _) := Rp.mk upd_same (RpAll.on (.cons sok (.cons (.int _) (.cons sok (.cons .non .nil)))) (KT.upd_new h_u))
        replace hB := hB.keep fun a o e _ => s_u a o e
        replace hst := hst.sm s_u
        replace r_e := r_e.on (KT.same s_u)
        replace r_t := r_t.on (KT.same s_u)
        replace S := S.sm s_u
        clear h_u
        clear s_u
        generalize (upd Hq18 u (.tup [.str "con", .int 2, .str "Greater", .non])) = Hq19 at hB hst r_e r_t r_u S ⊢
        refine ⟨(show 3 ≤ sizeLine by decide), fun L h_L => ?_⟩
        have s_L : Sm Hq19 (upd Hq19 L (.lst [.ref e, .ref t, .ref u])) := Sm.new h_L
        have o_L : (upd Hq19 L (.lst [.ref e, .ref t, .ref u])) L = some (.lst [.ref e, .ref t, .ref u]) := upd_same
        replace hB := hB.keep fun a o e _ => s_L a o e
        replace hst := hst.sm s_L
        replace r_e := r_e.on (KT.same s_L)
        replace r_t := r_t.on (KT.same s_L)
        replace r_u := r_u.on (KT.same s_L)
        replace S := S.sm s_L
        clear h_L
        clear s_L
        generalize (upd Hq19 L (.lst [.ref e, .ref t, .ref u])) = Hq20 at hB hst r_e r_t r_u o_L S ⊢
        refine ⟨_, rfl, b, c, 3, rfl, by decide, by decide, hB, fun r1 H1 r10 r11 hx1 hB1 => ?_⟩
        replace hst := hst.bx hB hx1
        replace r_e := r_e.on (hB.kt hx1)
        replace r_t := r_t.on (hB.kt hx1)
        replace r_u := r_u.on (hB.kt hx1)
        replace o_L := (hx1 _ (hB.off2 o_L).1 (hB.off2 o_L).2).trans o_L
        replace S := S.bx hx1
        replace hB := hB1
        have h2 : r1 = 0 ∨ r1 = 1 ∨ r1 = 2 := by omega
        rcases h2 with rfl | rfl | rfl
        · exact ⟨L, _, _, _, rfl, rfl, SqL.of o_L, rfl, k _ _ (.con0 0 "Less") st S hB hst (by simpa [Vl.d] using r_e) Pre.refl (by omega) (con0_of (by decide) (by decide +kernel))⟩
        · exact ⟨L, _, _, _, rfl, rfl, SqL.of o_L, rfl, k _ _ (.con0 1 "Equal") st S hB hst (by simpa [Vl.d] using r_t) Pre.refl (by omega) (con0_of (by decide) (by decide +kernel))⟩
        · exact ⟨L, _, _, _, rfl, rfl, SqL.of o_L, rfl, k _ _ (.con0 2 "Greater") st S hB hst (by simpa [Vl.d] using r_u) Pre.refl (by omega) (con0_of (by decide) (by decide +kernel))⟩
    | one m t a0 ht ga =>
      obtain ⟨n, rfl⟩ : ∃ j, n = j + 1 := ⟨n - 1, by omega⟩
      have hp2 : 2 ^ (n + 1) = 2 * 2 ^ n := by rw [Nat.pow_succ]; omega
      have hp3 : 0 < 2 ^ n := Nat.pos_of_ne_zero (by simp)
      have r_x := hx
      obtain ⟨a, g, gs, rfl, hs, hg, hgs⟩ := inv_c hx
      simp only [Sh.ds] at hgs
      obtain ⟨y1, w1, rfl, r_p, hgs⟩ := hgs.cons_inv
      have er := RpAll.nil_inv hgs
      subst er
      refine ⟨_, rfl, a, _, _, _, rfl, rfl, hs, at0, ?_⟩
      refine ⟨_, rfl, rfl, _, rfl, iteN (by decide +kernel) ?_⟩
      refine ⟨_, rfl, rfl, _, rfl, iteN (by decide +kernel) (iteF (A := _) ?_)⟩
      refine ⟨_, rfl, rfl, _, rfl, iteN (by decide +kernel) ?_⟩
      refine ⟨_, rfl, a, _, _, _, rfl, rfl, hs, at1, ?_⟩
      rcases ht with rfl | rfl | rfl
      · refine ⟨_, rfl, rfl, _, rfl, iteN (by decide) ?_⟩
        refine ⟨_, rfl, rfl, _, rfl, iteN (by decide) ?_⟩
        refine ⟨_, rfl, rfl, _, rfl, iteN (by decide) ?_⟩
        refine ⟨_, rfl, rfl, _, rfl, iteN (by decide) ?_⟩
        refine ⟨_, rfl, rfl, _, rfl, iteN (by decide) ?_⟩
        refine ⟨_, rfl, rfl, _, rfl, iteN (by decide) ?_⟩
        refine ⟨_, rfl, rfl, _, rfl, iteN (by decide) ?_⟩
        refine ⟨_, rfl, _, _, rfl, rfl, _, rfl, ?_⟩
        by_cases hd : d ≤ 0
        · rw [decide_eq_true hd]
          refine iteT (B := _) (iteT (B := _) ?_)
          refine ⟨(show 2 ≤ sizeLine by decide), fun L h_L => ?_⟩
          have s_L : Sm H (upd H L (.lst [.str "Nil", .str "None"])) := Sm.new h_L
          have o_L : (upd H L (.lst [.str "Nil", .str "None"])) L = some (.lst [.str "Nil", .str "None"]) := upd_same
          replace hB := hB.keep fun a o e _ => s_L a o e
          replace hst := hst.sm s_L
          replace r_p := r_p.on (KT.same s_L)
          replace r_x := r_x.on (KT.same s_L)
          replace hs := (KT.same s_L).sqt hs
          replace hg := (KT.same s_L).sqt hg
          replace S := S.sm s_L
          clear h_L
          clear s_L
          generalize (upd H L (.lst [.str "Nil", .str "None"])) = Hq21 at hB hst r_p r_x hs hg o_L S ⊢
          refine ⟨_, rfl, _, _, rfl, rfl, L, _, _, _, rfl, rfl, SqL.of o_L, rfl, (show 4 ≤ sizeLine by decide), fun t h_t => ?_⟩
          have s_t : Sm Hq21 (upd Hq21 t (.tup [.str "con", .int 0, .str "Nil", .non])) := Sm.new h_t
          have r_t : Rp K (upd Hq21 t (.tup [.str "con", .int 0, .str "Nil", .non])) (.ref t) (.tuple _) := Rp.mk upd_same (RpAll.on (.cons sok (.cons (.int _) (.cons sok (.cons .non .nil)))) (KT.upd_new h_t))
          replace hB := hB.keep fun a o e _ => s_t a o e
          replace hst := hst.sm s_t
          replace r_p := r_p.on (KT.same s_t)
          replace r_x := r_x.on (KT.same s_t)
          replace hs := (KT.same s_t).sqt hs
          replace hg := (KT.same s_t).sqt hg
          replace o_L := s_t _ _ o_L
          replace S := S.sm s_t
          clear h_t
          clear s_t
          generalize (upd Hq21 t (.tup [.str "con", .int 0, .str "Nil", .non])) = Hq22 at hB hst r_p r_x hs hg o_L r_t S ⊢
          exact k _ _ (.con0 0 "Nil") st S hB hst (by simpa [Vl.d] using r_t) Pre.refl (by omega) (con0_of (by decide) (by decide +kernel))
        rw [decide_eq_false hd]
        refine iteF (A := _) ?_
        refine ⟨_, rfl, b, c, 3, rfl, by decide, by decide, hB, fun r1 H1 r10 r11 hx1 hB1 => ?_⟩
        replace hst := hst.bx hB hx1
        replace r_p := r_p.on (hB.kt hx1)
        replace r_x := r_x.on (hB.kt hx1)
        replace hs := (hB.kt hx1).sqt hs
        replace hg := (hB.kt hx1).sqt hg
        replace S := S.bx hx1
        replace hB := hB1
        refine ⟨rfl, _, rfl, ?_⟩
        rw [dec_i]
        by_cases hr1 : r1 = 0
        · rw [decide_eq_true hr1]
          refine iteT (B := _) ?_
          refine ⟨(show 2 ≤ sizeLine by decide), fun L h_L => ?_⟩
          have s_L : Sm H1 (upd H1 L (.lst [.str "Nil", .str "None"])) := Sm.new h_L
          have o_L : (upd H1 L (.lst [.str "Nil", .str "None"])) L = some (.lst [.str "Nil", .str "None"]) := upd_same
          replace hB := hB.keep fun a o e _ => s_L a o e
          replace hst := hst.sm s_L
          replace r_p := r_p.on (KT.same s_L)
          replace r_x := r_x.on (KT.same s_L)
          replace hs := (KT.same s_L).sqt hs
          replace hg := (KT.same s_L).sqt hg
          replace S := S.sm s_L
          clear h_L
          clear s_L
          generalize (upd H1 L (.lst [.str "Nil", .str "None"])) = Hq23 at hB hst r_p r_x hs hg o_L S ⊢
          refine ⟨_, rfl, _, _, rfl, rfl, L, _, _, _, rfl, rfl, SqL.of o_L, rfl, (show 4 ≤ sizeLine by decide), fun t h_t => ?_⟩
          have s_t : Sm Hq23 (upd Hq23 t (.tup [.str "con", .int 0, .str "Nil", .non])) := Sm.new h_t
          have r_t : Rp K (upd Hq23 t (.tup [.str "con", .int 0, .str "Nil", .non])) (.ref t) (.tuple _) := Rp.mk upd_same (RpAll.on (.cons sok (.cons (.int _) (.cons sok (.cons .non .nil)))) (KT.upd_new h_t))
          replace hB := hB.keep fun a o e _ => s_t a o e
          replace hst := hst.sm s_t
          replace r_p := r_p.on (KT.same s_t)
          replace r_x := r_x.on (KT.same s_t)
          replace hs := (KT.same s_t).sqt hs
          replace hg := (KT.same s_t).sqt hg
          replace o_L := s_t _ _ o_L
          replace S := S.sm s_t
          clear h_t
          clear s_t
          generalize (upd Hq23 t (.tup [.str "con", .int 0, .str "Nil", .non])) = Hq24 at hB hst r_p r_x hs hg o_L r_t S ⊢
          exact k _ _ (.con0 0 "Nil") st S hB hst (by simpa [Vl.d] using r_t) Pre.refl (by omega) (con0_of (by decide) (by decide +kernel))
        rw [decide_eq_false hr1]
        refine iteF (A := _) ?_
        refine ⟨_, rfl, _, rfl, a, _, _, _, rfl, rfl, hs, at2, g, _, _, _, rfl, rfl, hg, at0, _, rfl, _, rfl, _, _, rfl, rfl, b, c, s, y1, d - 1, m, a0, st, rfl, by omega, ga, hB, hst, by omega, r_p, fun r H2 v st2 hv2 hB2 hst2 rv pre len2 ok => ?_⟩
        replace r_p := r_p.on (hB.ktv hst hv2)
        replace r_x := r_x.on (hB.ktv hst hv2)
        replace hs := (hB.ktv hst hv2).sqt hs
        replace hg := (hB.ktv hst hv2).sqt hg
        replace S := S.trans hv2
        replace hB := hB2
        replace hst := hst2
        obtain ⟨ov, _, rfl, _⟩ := inv_tag v rv
        refine ⟨_, rfl, rfl, _, rfl, iteN (by decide) ?_⟩
        refine ⟨_, rfl, _, rfl, _, rfl, _, rfl, _, rfl, _, _, rfl, rfl, b, c, s, .ref a, d - 2, m + 1, .c 5 [a0], st2, rfl, by omega, .one _ _ _ (by decide) ga, hB, hst, by omega, r_x, fun r2 H3 v2 st3 hv3 hB3 hst3 rv2 pre2 len3 ok2 => ?_⟩
        replace r_p := r_p.on (hB.ktv hst hv3)
        replace r_x := r_x.on (hB.ktv hst hv3)
        replace hs := (hB.ktv hst hv3).sqt hs
        replace hg := (hB.ktv hst hv3).sqt hg
        replace rv := rv.on (hB.ktv hst hv3)
        replace S := S.trans hv3
        replace hB := hB3
        replace hst := hst3
        obtain ⟨ov2, _, rfl, _⟩ := inv_tag v2 rv2
        refine ⟨(show 2 ≤ sizeLine by decide), fun t3 h_t3 => ?_⟩
        have s_t3 : Sm H3 (upd H3 t3 (.tup [.ref ov, .ref ov2])) := Sm.new h_t3
        have r_t3 : Rp K (upd H3 t3 (.tup [.ref ov, .ref ov2])) (.ref t3) (.tuple _) := Rp.mk upd_same (RpAll.on (.cons rv (.cons rv2 .nil)) (KT.upd_new h_t3))
        replace hB := hB.keep fun a o e _ => s_t3 a o e
        replace hst := hst.sm s_t3
        replace r_p := r_p.on (KT.same s_t3)
        replace r_x := r_x.on (KT.same s_t3)
        replace hs := (KT.same s_t3).sqt hs
        replace hg := (KT.same s_t3).sqt hg
        replace rv := rv.on (KT.same s_t3)
        replace rv2 := rv2.on (KT.same s_t3)
        replace S := S.sm s_t3
        clear h_t3
        clear s_t3
        generalize (upd H3 t3 (.tup [.ref ov, .ref ov2])) = Hq25 at hB hst r_p r_x hs hg rv rv2 r_t3 S ⊢
        refine ⟨(show 2 ≤ sizeLine by decide), fun t4 h_t4 => ?_⟩
        have s_t4 : Sm Hq25 (upd Hq25 t4 (.tup [.str "tuple", .ref t3])) := Sm.new h_t4
        have r_t4 : Rp K (upd Hq25 t4 (.tup [.str "tuple", .ref t3])) (.ref t4) (.tuple _) := Rp.mk upd_same (RpAll.on (.cons sok (.cons r_t3 .nil)) (KT.upd_new h_t4))
        replace hB := hB.keep fun a o e _ => s_t4 a o e
        replace hst := hst.sm s_t4
        replace r_p := r_p.on (KT.same s_t4)
        replace r_x := r_x.on (KT.same s_t4)
        replace hs := (KT.same s_t4).sqt hs
        replace hg := (KT.same s_t4).sqt hg
        replace rv := rv.on (KT.same s_t4)
        replace rv2 := rv2.on (KT.same s_t4)
        replace r_t3 := r_t3.on (KT.same s_t4)
        replace S := S.sm s_t4
        clear h_t4
        clear s_t4
        generalize (upd Hq25 t4 (.tup [.str "tuple", .ref t3])) = Hq26 at hB hst r_p r_x hs hg rv rv2 r_t3 r_t4 S ⊢
        refine ⟨(show 4 ≤ sizeLine by decide), fun t5 h_t5 => ?_⟩
        have s_t5 : Sm Hq26 (upd Hq26 t5 (.tup [.str "con", .int 1, .str "Cons", .ref t4])) := Sm.new h_t5
        have r_t5 : Rp K (upd Hq26 t5 (.tup [.str "con", .int 1, .str "Cons", .ref t4])) (.ref t5) (.tuple _) := Rp.mk upd_same (RpAll.on (.cons sok (.cons (.int _) (.cons sok (.cons r_t4 .nil)))) (KT.upd_new h_t5))
        replace hB := hB.keep fun a o e _ => s_t5 a o e
        replace hst := hst.sm s_t5
        replace r_p := r_p.on (KT.same s_t5)
        replace r_x := r_x.on (KT.same s_t5)
        replace hs := (KT.same s_t5).sqt hs
        replace hg := (KT.same s_t5).sqt hg
        replace rv := rv.on (KT.same s_t5)
        replace rv2 := rv2.on (KT.same s_t5)
        replace r_t3 := r_t3.on (KT.same s_t5)
        replace r_t4 := r_t4.on (KT.same s_t5)
        replace S := S.sm s_t5
        clear h_t5
        clear s_t5
        generalize (upd Hq26 t5 (.tup [.str "con", .int 1, .str "Cons", .ref t4])) = Hq27 at hB hst r_p r_x hs hg rv rv2 r_t3 r_t4 r_t5 S ⊢
        obtain ⟨rw, e1, e2, e3⟩ := row_cons
        refine k _ _ (.con1 1 "Cons" (.tup [v, v2])) st3 S hB hst (by simpa [Vl.d, Vl.ds] using r_t5) (pre.trans pre2) (by omega) ?_
        rw [← e2]
        exact .con1 (2 * n + 2) _ 5 1 _ rw (.t [.v 0, .c 5 [.v 0]]) _ (by decide) e1 e3 (by simpa [repl, repls, pick] using VOk.pair _ _ _ _ _ _ (ok.pre pre2) ok2)
      · refine ⟨_, rfl, rfl, _, rfl, iteN (by decide) ?_⟩
        refine ⟨_, rfl, rfl, _, rfl, iteN (by decide) ?_⟩
        refine ⟨_, rfl, rfl, _, rfl, iteN (by decide) ?_⟩
        refine ⟨_, rfl, rfl, _, rfl, iteN (by decide) ?_⟩
        refine ⟨_, rfl, rfl, _, rfl, iteN (by decide) ?_⟩
        refine ⟨_, rfl, rfl, _, rfl, iteN (by decide) ?_⟩
        refine ⟨_, rfl, rfl, _, rfl, iteN (by decide) ?_⟩
        refine ⟨_, rfl, _, _, rfl, rfl, _, rfl, ?_⟩
        by_cases hd : d ≤ 0
        · rw [decide_eq_true hd]
          refine iteT (B := _) (iteT (B := _) ?_)
          refine ⟨(show 2 ≤ sizeLine by decide), fun L h_L => ?_⟩
          have s_L : Sm H (upd H L (.lst [.str "Nil", .str "None"])) := Sm.new h_L
          have o_L : (upd H L (.lst [.str "Nil", .str "None"])) L = some (.lst [.str "Nil", .str "None"]) := upd_same
          replace hB := hB.keep fun a o e _ => s_L a o e
          replace hst := hst.sm s_L
          replace r_p := r_p.on (KT.same s_L)
          replace r_x := r_x.on (KT.same s_L)
          replace hs := (KT.same s_L).sqt hs
          replace hg := (KT.same s_L).sqt hg
          replace S := S.sm s_L
          clear h_L
          clear s_L
          generalize (upd H L (.lst [.str "Nil", .str "None"])) = Hq28 at hB hst r_p r_x hs hg o_L S ⊢
          refine ⟨_, rfl, _, _, rfl, rfl, L, _, _, _, rfl, rfl, SqL.of o_L, rfl, (show 4 ≤ sizeLine by decide), fun t h_t => ?_⟩
          have s_t : Sm Hq28 (upd Hq28 t (.tup [.str "con", .int 0, .str "None", .non])) := Sm.new h_t
          have r_t : Rp K (upd Hq28 t (.tup [.str "con", .int 0, .str "None", .non])) (.ref t) (.tuple _) := Rp.mk upd_same (RpAll.on (.cons sok (.cons (.int _) (.cons sok (.cons .non .nil)))) (KT.upd_new h_t))
          replace hB := hB.keep fun a o e _ => s_t a o e
          replace hst := hst.sm s_t
          replace r_p := r_p.on (KT.same s_t)
          replace r_x := r_x.on (KT.same s_t)
          replace hs := (KT.same s_t).sqt hs
          replace hg := (KT.same s_t).sqt hg
          replace o_L := s_t _ _ o_L
          replace S := S.sm s_t
          clear h_t
          clear s_t
          generalize (upd Hq28 t (.tup [.str "con", .int 0, .str "None", .non])) = Hq29 at hB hst r_p r_x hs hg o_L r_t S ⊢
          exact k _ _ (.con0 0 "None") st S hB hst (by simpa [Vl.d] using r_t) Pre.refl (by omega) (con0_of (by decide) (by decide +kernel))
        rw [decide_eq_false hd]
        refine iteF (A := _) ?_
        refine ⟨_, rfl, b, c, 3, rfl, by decide, by decide, hB, fun r1 H1 r10 r11 hx1 hB1 => ?_⟩
        replace hst := hst.bx hB hx1
        replace r_p := r_p.on (hB.kt hx1)
        replace r_x := r_x.on (hB.kt hx1)
        replace hs := (hB.kt hx1).sqt hs
        replace hg := (hB.kt hx1).sqt hg
        replace S := S.bx hx1
        replace hB := hB1
        refine ⟨rfl, _, rfl, ?_⟩
        rw [dec_i]
        by_cases hr1 : r1 = 0
        · rw [decide_eq_true hr1]
          refine iteT (B := _) ?_
          refine ⟨(show 2 ≤ sizeLine by decide), fun L h_L => ?_⟩
          have s_L : Sm H1 (upd H1 L (.lst [.str "Nil", .str "None"])) := Sm.new h_L
          have o_L : (upd H1 L (.lst [.str "Nil", .str "None"])) L = some (.lst [.str "Nil", .str "None"]) := upd_same
          replace hB := hB.keep fun a o e _ => s_L a o e
          replace hst := hst.sm s_L
          replace r_p := r_p.on (KT.same s_L)
          replace r_x := r_x.on (KT.same s_L)
          replace hs := (KT.same s_L).sqt hs
          replace hg := (KT.same s_L).sqt hg
          replace S := S.sm s_L
          clear h_L
          clear s_L
          generalize (upd H1 L (.lst [.str "Nil", .str "None"])) = Hq30 at hB hst r_p r_x hs hg o_L S ⊢
          refine ⟨_, rfl, _, _, rfl, rfl, L, _, _, _, rfl, rfl, SqL.of o_L, rfl, (show 4 ≤ sizeLine by decide), fun t h_t => ?_⟩
          have s_t : Sm Hq30 (upd Hq30 t (.tup [.str "con", .int 0, .str "None", .non])) := Sm.new h_t
          have r_t : Rp K (upd Hq30 t (.tup [.str "con", .int 0, .str "None", .non])) (.ref t) (.tuple _) := Rp.mk upd_same (RpAll.on (.cons sok (.cons (.int _) (.cons sok (.cons .non .nil)))) (KT.upd_new h_t))
          replace hB := hB.keep fun a o e _ => s_t a o e
          replace hst := hst.sm s_t
          replace r_p := r_p.on (KT.same s_t)
          replace r_x := r_x.on (KT.same s_t)
          replace hs := (KT.same s_t).sqt hs
          replace hg := (KT.same s_t).sqt hg
          replace o_L := s_t _ _ o_L
          replace S := S.sm s_t
          clear h_t
          clear s_t
          generalize (upd Hq30 t (.tup [.str "con", .int 0, .str "None", .non])) = Hq31 at hB hst r_p r_x hs hg o_L r_t S ⊢
          exact k _ _ (.con0 0 "None") st S hB hst (by simpa [Vl.d] using r_t) Pre.refl (by omega) (con0_of (by decide) (by decide +kernel))
        rw [decide_eq_false hr1]
        refine iteF (A := _) ?_
        refine ⟨_, rfl, _, rfl, a, _, _, _, rfl, rfl, hs, at2, g, _, _, _, rfl, rfl, hg, at0, _, rfl, _, rfl, _, _, rfl, rfl, b, c, s, y1, d - 1, m, a0, st, rfl, by omega, ga, hB, hst, by omega, r_p, fun r H2 v st2 hv2 hB2 hst2 rv pre len2 ok => ?_⟩
        replace r_p := r_p.on (hB.ktv hst hv2)
        replace r_x := r_x.on (hB.ktv hst hv2)
        replace hs := (hB.ktv hst hv2).sqt hs
        replace hg := (hB.ktv hst hv2).sqt hg
        replace S := S.trans hv2
        replace hB := hB2
        replace hst := hst2
        obtain ⟨ov, _, rfl, _⟩ := inv_tag v rv
        refine ⟨_, rfl, rfl, _, rfl, iteY (by decide) ?_⟩
        refine ⟨_, rfl, (show 4 ≤ sizeLine by decide), fun t5 h_t5 => ?_⟩
        have s_t5 : Sm H2 (upd H2 t5 (.tup [.str "con", .int 1, .str "Some", .ref ov])) := Sm.new h_t5
        have r_t5 : Rp K (upd H2 t5 (.tup [.str "con", .int 1, .str "Some", .ref ov])) (.ref t5) (.tuple _) := Rp.mk upd_same (RpAll.on (.cons sok (.cons (.int _) (.cons sok (.cons rv .nil)))) (KT.upd_new h_t5))
        replace hB := hB.keep fun a o e _ => s_t5 a o e
        replace hst := hst.sm s_t5
        replace r_p := r_p.on (KT.same s_t5)
        replace r_x := r_x.on (KT.same s_t5)
        replace hs := (KT.same s_t5).sqt hs
        replace hg := (KT.same s_t5).sqt hg
        replace rv := rv.on (KT.same s_t5)
        replace S := S.sm s_t5
        clear h_t5
        clear s_t5
        generalize (upd H2 t5 (.tup [.str "con", .int 1, .str "Some", .ref ov])) = Hq32 at hB hst r_p r_x hs hg rv r_t5 S ⊢
        obtain ⟨rw, e1, e2, e3⟩ := row_some
        refine k _ _ (.con1 1 "Some" v) st2 S hB hst (by simpa [Vl.d, Vl.ds] using r_t5) pre (by omega) ?_
        rw [← e2]
        exact .con1 (2 * n + 2) _ 6 1 _ rw (.v 0) _ (by decide) e1 e3 (by simpa [repl, repls, pick] using ok.hi (by omega))
      · refine ⟨_, rfl, rfl, _, rfl, iteN (by decide) ?_⟩
        refine ⟨_, rfl, rfl, _, rfl, iteN (by decide) ?_⟩
        refine ⟨_, rfl, rfl, _, rfl, iteN (by decide) ?_⟩
        refine ⟨_, rfl, rfl, _, rfl, iteN (by decide) ?_⟩
        refine ⟨_, rfl, rfl, _, rfl, iteN (by decide) ?_⟩
        refine ⟨_, rfl, rfl, _, rfl, iteY (by decide) ?_⟩
        refine ⟨_, rfl, _, rfl, _, rfl, a, _, _, _, rfl, rfl, hs, at2, g, _, _, _, rfl, rfl, hg, at0, _, rfl, _, rfl, _, _, rfl, rfl, b, c, s, y1, d - 1, m, a0, st, rfl, by omega, ga, hB, hst, by omega, r_p, fun r H1 v st1 hv1 hB1 hst1 rv pre len1 ok => ?_⟩
        replace r_p := r_p.on (hB.ktv hst hv1)
        replace r_x := r_x.on (hB.ktv hst hv1)
        replace hs := (hB.ktv hst hv1).sqt hs
        replace hg := (hB.ktv hst hv1).sqt hg
        replace S := S.trans hv1
        replace hB := hB1
        replace hst := hst1
        refine ⟨b, c, s, r, st1, v, rfl, hB, hst, by omega, rv, ok.oka, fun r2 H2 hv2 hB2 hst2 rv2 => ?_⟩
        refine k _ _ (.ref (st1.length : Int)) (st1 ++ [v]) (S.trans hv2) hB2 hst2 rv2 (pre.trans Pre.add) (by simp; omega) ?_
        exact .ref (2 * n + 2) _ st1.length _ v (by simp) (by simp) ((ok.hi (by omega)).more (Nat.le_refl _) fun i hi => List.getElem?_append_left hi)
    | own m p q gp gq =>
      have r_x := hx
      obtain ⟨a, g, gs, rfl, hs, hg, hgs⟩ := inv_c hx
      refine ⟨_, rfl, a, _, _, _, rfl, rfl, hs, at0, ?_⟩
      refine ⟨_, rfl, rfl, _, rfl, iteN (by decide +kernel) ?_⟩
      refine ⟨_, rfl, rfl, _, rfl, iteN (by decide +kernel) (iteF (A := _) ?_)⟩
      refine ⟨_, rfl, rfl, _, rfl, iteN (by decide +kernel) ?_⟩
      refine ⟨_, rfl, a, _, _, _, rfl, rfl, hs, at1, ?_⟩
      refine ⟨_, rfl, rfl, _, rfl, iteN (by decide) ?_⟩
      refine ⟨_, rfl, rfl, _, rfl, iteN (by decide) ?_⟩
      refine ⟨_, rfl, rfl, _, rfl, iteN (by decide) ?_⟩
      refine ⟨_, rfl, rfl, _, rfl, iteN (by decide) ?_⟩
      refine ⟨_, rfl, rfl, _, rfl, iteN (by decide) ?_⟩
      refine ⟨_, rfl, rfl, _, rfl, iteN (by decide) ?_⟩
      refine ⟨_, rfl, rfl, _, rfl, iteY (by decide) ?_⟩
      exact ⟨_, rfl, _, rfl, _, rfl, _, rfl, b, c, s, .ref a, d, m, p, q, st, rfl, by omega, gp, gq, hB, hst, hl, r_x, k⟩
theorem ok_value (T : Txt K mg A) : ∀ n : Nat, FnOk P w K mg base CX0 (2 * n + 4) A.f__law_value A.d__law_value ["box", "shape", "store", "deep"] (spVal K n)
  | 0 => value_step T 0 (T.F__law_value.ok (k := 1) sc__law_value (fun _ _ _ _ h => h.elim) (fun _ _ _ _ _ _ _ _ _ h => h.elim))
  | n + 1 => value_step T (n + 1) (ok_value T n)
end
end K88

set_option Elab.async false
set_option maxRecDepth 100000
set_option linter.all false
set_option pp.maxSteps 300
set_option maxHeartbeats 40000000
namespace K88
open PySem L2 GD AG
section
variable {P : Program} {w : World} {K : PySem.W.Frag} {mg : Str → Option Value} {base : Heap} {A : Adr}
theorem Vs.free {b c s D : Addr} {H H1 : Hp} {st : List Vl} (h : Vs b c s H H1) (hB : BoxAt H1 b c) (hS : StAt K H1 b c s st) (hD : H1 D = none) : H D = none := by
  cases e : H D with
  | none => rfl
  | some o =>
    have n1 : D ≠ b := by obtain ⟨o, e1⟩ := hB.at_b; exact (ne_of_none e1 hD).symm
    have n2 : D ≠ c := by obtain ⟨o, e1⟩ := hB.at_c; exact (ne_of_none e1 hD).symm
    have n3 : D ≠ s := by obtain ⟨vs, e1, _⟩ := hS.at_; exact (ne_of_none e1 hD).symm
    rw [h D o n1 n2 n3 e] at hD
    cases hD
theorem okas_set : ∀ {l : List Vl} {i : Nat} {w : Vl}, Vl.okas l → w.oka → Vl.okas (l.set i w)
  | [], _, _, h, _ => h
  | x :: l, 0, w, h, k => by
    simp only [List.set, Vl.okas] at h ⊢
    exact ⟨k, h.2⟩
  | x :: l, i + 1, w, h, k => by
    simp only [List.set, Vl.okas] at h ⊢
    exact ⟨h.1, okas_set h.2 k⟩
theorem app_ne (n : Str) : n ++ ("s" : Str) ≠ n := fun e => by
  have h : (n ++ ("s" : Str)).cps.size = n.cps.size := by rw [e]
  have h2 : (n ++ ("s" : Str)).cps = n.cps ++ ("s" : Str).cps := rfl
  rw [h2, Array.size_append] at h
  have h3 : ("s" : Str).cps.size = 1 := by decide +kernel
  omega
theorem app_ok {n : Str} (h : PyData.strOk n = true) : PyData.strOk (n ++ ("s" : Str)) = true := by
  have h2 : (n ++ ("s" : Str)).cps = n.cps ++ ("s" : Str).cps := rfl
  unfold PyData.strOk at h ⊢
  rw [h2, Array.all_append, h]
  decide +kernel
theorem name_small {t i : Int} {r : Row} (h : rowAt full t i = some r) : r.name.length ≤ 100 := by
  have key : (full.all fun r => decide (r.name.length ≤ 100)) = true := by decide +kernel
  simpa using List.all_eq_true.mp key r (rowAt_mem h).1
theorem Rp.strok {H : Hp} {v : V} {x : Str} (h : Rp K H v (.str x)) : PyData.strOk x = true := by
  cases h with
  | str _ h => exact h
def spSpo (K : PySem.W.Frag) (n : Nat) : Sp := fun vs H Q _ => ∃ (b c s : Addr) (x : V) (m : Nat) (sh : Sh) (st : List Vl) (v : Vl), vs = [.ref b, x, .ref s] ∧ VOk full st n m sh v ∧ BoxAt H b c ∧ StAt K H b c s st ∧ Rp K H x v.d ∧
  ∀ (r : V) (H' : Hp) (w : Vl) (st' : List Vl), Vs b c s H H' → BoxAt H' b c → StAt K H' b c s st' → Rp K H' r w.d → AG.Spo st v w st' → w.oka → Q r H'
theorem ok_spo (T : Txt K mg A) : ∀ n : Nat, FnOk P w K mg base CX0 (n + 3) A.f__law_spoilt A.d__law_spoilt ["box", "value", "store"] (spSpo K n) := by
  intro n
  induction n with
  | zero =>
    refine T.F__law_spoilt.ok (k := 2) sc__law_spoilt (fun vs H Q E h => ?_) (fun cdv Ar outer s H vs Q E hr h => ?_)
    · obtain ⟨b, c, s, x, m, sh, st, v, rfl, _⟩ := h
      rfl
    · obtain ⟨b, c, s, x, m, sh, st, v, rfl, hv, _⟩ := h
      cases hv
  | succ n ih =>
    have G__law_draw : FnOk P w K mg base CX0 2 A.f__law_draw A.d__law_draw _ _ := ok__law_draw T
    have G__law_spoilt : FnOk P w K mg base CX0 (n + 3) A.f__law_spoilt A.d__law_spoilt _ _ := ih
    refine T.F__law_spoilt.ok (k := n + 3) sc__law_spoilt (fun vs H Q E h => ?_) (fun cdv Ar outer s H vs Q E hr h => ?_)
    · obtain ⟨b, c, s, x, m, sh, st, v, rfl, _⟩ := h
      rfl
    · obtain ⟨b, c, s, x, m, sh, st, v, rfl, hv, hB, hst, hx, k⟩ := h
      refine ⟨_, (pss_cons (ps_if (PW.pt (pw_and (pt_cmpR op_eq (pe_ix (ixt (K := K) rfl) (pv 1) pe_int (fun _ _ => rfl)) pe_str (nomark _)) (pw_and (pt_cmpR op_gt (pe_callB call_len_seq (by rfl) T.n_len PySem.boot_len (pa_cons (pe_ix (ixt (K := K) rfl) (pv 1) pe_int (fun _ _ => rfl)) pa_nil)) pe_int (nomark _)) (pw_and1 (pt_cmpR op_gt (pe_call G__law_draw (hr.mono (by first | decide | omega)) rfl T.g__law_draw T.F__law_draw.kp T.b__law_draw .nil pass0 (pa_cons (pv 0) (pa_cons pe_int pa_nil))) pe_int (nomark _)))))) (pss_cons (ps_set (i := 3) sc__law_spoilt.nd rfl (Or.inl rfl) (pe_call G__law_draw (hr.mono (by first | decide | omega)) rfl T.g__law_draw T.F__law_draw.kp T.b__law_draw .nil pass0 (pa_cons (pv 0) (pa_cons (pe_callB call_len_seq (by rfl) T.n_len PySem.boot_len (pa_cons (pe_ix (ixt (K := K) rfl) (pv 1) pe_int (fun _ _ => rfl)) pa_nil)) pa_nil)))) (pss_cons (ps_set (i := 4) sc__law_spoilt.nd rfl (Or.inl rfl) (pe_call G__law_spoilt (hr.mono (by first | decide | omega)) rfl T.g__law_spoilt T.F__law_spoilt.kp T.b__law_spoilt .nil pass0 (pa_cons (pv 0) (pa_cons (pe_ix (ixt (K := K) rfl) (pe_ix (ixt (K := K) rfl) (pv 1) pe_int (fun _ _ => rfl)) (pv 3) (fun _ _ => rfl)) (pa_cons (pv 2) pa_nil))))) (pss_one (ps_ret (pe_tup (pa_cons pe_str (pa_cons (pe_op op_catA (pe_op op_catA (pe_slice sl_tup (pe_ix (ixt (K := K) rfl) (pv 1) pe_int (fun _ _ => rfl)) po_none (po_some (pv 3))) (pe_tup (pa_cons (pv 4) pa_nil))) (pe_slice sl_tup (pe_ix (ixt (K := K) rfl) (pv 1) pe_int (fun _ _ => rfl)) (po_some (pe_op op_add (pv 3) pe_int)) po_none)) pa_nil))))))) pss_nil) (pss_cons (ps_if (PW.pt (pw_and (pt_cmpR op_eq (pe_ix (ixt (K := K) rfl) (pv 1) pe_int (fun _ _ => rfl)) pe_str (nomark _)) (pw_and (pt_cmpR op_notN (pe_ix (ixt (K := K) rfl) (pv 1) pe_int (fun _ _ => rfl)) pe_non (nomark _)) (pw_and1 (pt_cmpR op_gt (pe_call G__law_draw (hr.mono (by first | decide | omega)) rfl T.g__law_draw T.F__law_draw.kp T.b__law_draw .nil pass0 (pa_cons (pv 0) (pa_cons pe_int pa_nil))) pe_int (nomark _)))))) (pss_one (ps_ret (pe_op op_catT (pe_slice sl_tup (pv 1) po_none (po_some pe_int)) (pe_tup (pa_cons (pe_call G__law_spoilt (hr.mono (by first | decide | omega)) rfl T.g__law_spoilt T.F__law_spoilt.kp T.b__law_spoilt .nil pass0 (pa_cons (pv 0) (pa_cons (pe_ix (ixt (K := K) rfl) (pv 1) pe_int (fun _ _ => rfl)) (pa_cons (pv 2) pa_nil)))) pa_nil))))) pss_nil) (pss_cons (ps_if (pt_cmpR op_eq (pe_ix (ixt (K := K) rfl) (pv 1) pe_int (fun _ _ => rfl)) pe_str (nomark _)) (pss_cons (ps_set (i := 5) sc__law_spoilt.nd rfl (Or.inl rfl) (pe_lst (pa_cons (pe_tup (pa_cons pe_str (pa_cons (pe_ix (ixt (K := K) rfl) (pv 1) pe_int (fun _ _ => rfl)) (pa_cons (pe_op op_add_str (pe_ix (ixt (K := K) rfl) (pv 1) pe_int (fun _ _ => rfl)) pe_str) (pa_cons (pe_ix (ixt (K := K) rfl) (pv 1) pe_int (fun _ _ => rfl)) pa_nil))))) (pa_cons (pe_tup (pa_cons pe_str (pa_cons pe_int pa_nil))) (pa_cons (pe_tup (pa_cons pe_str (pa_cons (pe_ix (ixt (K := K) rfl) (pv 1) pe_int (fun _ _ => rfl)) (pa_cons (pe_ix (ixt (K := K) rfl) (pv 1) pe_int (fun _ _ => rfl)) (pa_cons (pe_tup (pa_cons pe_str (pa_cons pe_int pa_nil))) pa_nil))))) (pa_cons (pe_tup (pa_cons pe_str (pa_cons (pe_callTy call_int1 (by rfl) T.n_int (by decide +kernel) (pa_cons (pe_cmpR op_eq (pe_ix (ixt (K := K) rfl) (pv 1) pe_int (fun _ _ => rfl)) pe_int (nomark _)) pa_nil)) (pa_cons (pe_ix (ixt (K := K) rfl) (pv 1) pe_int (fun _ _ => rfl)) (pa_cons (pe_ix (ixt (K := K) rfl) (pv 1) pe_int (fun _ _ => rfl)) pa_nil))))) pa_nil)))))) (pss_cons (ps_if (pt_cmpR op_notN (pe_ix (ixt (K := K) rfl) (pv 1) pe_int (fun _ _ => rfl)) pe_non (nomark _)) (pss_one (ps_asg (pe_tup (pa_cons pe_str (pa_cons (pe_ix (ixt (K := K) rfl) (pv 1) pe_int (fun _ _ => rfl)) (pa_cons (pe_ix (ixt (K := K) rfl) (pv 1) pe_int (fun _ _ => rfl)) (pa_cons pe_non pa_nil))))) (pg_sub (pv 5) pe_int set_list))) pss_nil) (pss_one (ps_ret (pe_ix (ixl (K := K) rfl) (pv 5) (pe_call G__law_draw (hr.mono (by first | decide | omega)) rfl T.g__law_draw T.F__law_draw.kp T.b__law_draw .nil pass0 (pa_cons (pv 0) (pa_cons pe_int pa_nil))) (fun _ _ => rfl)))))) pss_nil) (pss_cons (ps_if (PW.pt (pw_and (pt_cmpR op_eq (pe_ix (ixt (K := K) rfl) (pv 1) pe_int (fun _ _ => rfl)) pe_str (nomark _)) (pw_and1 (pt_cmpR op_eq (pe_call G__law_draw (hr.mono (by first | decide | omega)) rfl T.g__law_draw T.F__law_draw.kp T.b__law_draw .nil pass0 (pa_cons (pv 0) (pa_cons pe_int pa_nil))) pe_int (nomark _))))) (pss_cons (ps_asg (pe_call G__law_spoilt (hr.mono (by first | decide | omega)) rfl T.g__law_spoilt T.F__law_spoilt.kp T.b__law_spoilt .nil pass0 (pa_cons (pv 0) (pa_cons (pe_ix (ixl (K := K) rfl) (pv 2) (pe_ix (ixt (K := K) rfl) (pv 1) pe_int (fun _ _ => rfl)) (fun _ _ => rfl)) (pa_cons (pv 2) pa_nil)))) (pg_sub (pv 2) (pe_ix (ixt (K := K) rfl) (pv 1) pe_int (fun _ _ => rfl)) set_list)) (pss_one (ps_ret (pv 1)))) pss_nil) (pss_cons (ps_if (pt_cmpR op_eq (pe_ix (ixt (K := K) rfl) (pv 1) pe_int (fun _ _ => rfl)) pe_str (nomark _)) (pss_one (ps_ret (pe_ix (ixl (K := K) rfl) (pe_lst (pa_cons (pe_tup (pa_cons pe_str (pa_cons (pe_tup pa_nil) pa_nil))) (pa_cons (pe_tup (pa_cons pe_str (pa_cons pe_int (pa_cons pe_str (pa_cons pe_non pa_nil))))) (pa_cons (pe_tup (pa_cons pe_str (pa_cons (pe_ix (ixt (K := K) rfl) (pv 1) pe_int (fun _ _ => rfl)) pa_nil))) pa_nil)))) (pe_call G__law_draw (hr.mono (by first | decide | omega)) rfl T.g__law_draw T.F__law_draw.kp T.b__law_draw .nil pass0 (pa_cons (pv 0) (pa_cons pe_int pa_nil))) (fun _ _ => rfl)))) pss_nil) (pss_cons (ps_if (PW.pt (pw_or (pt_cmpR op_eq (pe_ix (ixt (K := K) rfl) (pv 1) pe_int (fun _ _ => rfl)) pe_str (nomark _)) (pw_or1 (pt_cmpR op_eq (pe_ix (ixt (K := K) rfl) (pv 1) pe_int (fun _ _ => rfl)) pe_str (nomark _))))) (pss_one (ps_ret (pe_ix (ixl (K := K) rfl) (pe_lst (pa_cons (pe_tup (pa_cons pe_str (pa_cons (pe_tup pa_nil) pa_nil))) (pa_cons (pe_tup (pa_cons pe_str (pa_cons pe_int (pa_cons pe_str (pa_cons pe_non pa_nil))))) (pa_cons (pe_tup (pa_cons pe_str (pa_cons pe_int (pa_cons pe_str pa_nil)))) pa_nil)))) (pe_call G__law_draw (hr.mono (by first | decide | omega)) rfl T.g__law_draw T.F__law_draw.kp T.b__law_draw .nil pass0 (pa_cons (pv 0) (pa_cons pe_int pa_nil))) (fun _ _ => rfl)))) pss_nil) (pss_cons (ps_if (PW.pt (pw_and (pt_cmpR op_eq (pe_ix (ixt (K := K) rfl) (pv 1) pe_int (fun _ _ => rfl)) pe_str (nomark _)) (pw_and1 (pt_cmpR op_gt (pe_callB call_len_seq (by rfl) T.n_len PySem.boot_len (pa_cons (pe_ix (ixt (K := K) rfl) (pv 1) pe_int (fun _ _ => rfl)) pa_nil)) pe_int (nomark _))))) (pss_one (ps_ret (pe_ix (ixl (K := K) rfl) (pe_lst (pa_cons (pe_tup (pa_cons pe_str (pa_cons pe_int pa_nil))) (pa_cons (pe_tup (pa_cons pe_str (pa_cons (pe_op op_catT (pe_ix (ixt (K := K) rfl) (pv 1) pe_int (fun _ _ => rfl)) (pe_tup (pa_cons (pe_tup (pa_cons pe_str (pa_cons pe_int pa_nil))) pa_nil))) pa_nil))) (pa_cons (pe_tup (pa_cons pe_str (pa_cons (pe_tup pa_nil) pa_nil))) pa_nil)))) (pe_call G__law_draw (hr.mono (by first | decide | omega)) rfl T.g__law_draw T.F__law_draw.kp T.b__law_draw .nil pass0 (pa_cons (pv 0) (pa_cons pe_int pa_nil))) (fun _ _ => rfl)))) pss_nil) (pss_one (ps_ret (pe_ix (ixl (K := K) rfl) (pe_lst (pa_cons (pe_tup (pa_cons pe_str (pa_cons pe_int pa_nil))) (pa_cons (pe_tup (pa_cons pe_str (pa_cons (pe_tup (pa_cons (pe_tup (pa_cons pe_str (pa_cons pe_int pa_nil))) (pa_cons (pv 1) pa_nil))) pa_nil))) (pa_cons (pe_tup (pa_cons pe_str (pa_cons pe_int (pa_cons pe_str pa_nil)))) pa_nil)))) (pe_call G__law_draw (hr.mono (by first | decide | omega)) rfl T.g__law_draw T.F__law_draw.kp T.b__law_draw .nil pass0 (pa_cons (pv 0) (pa_cons pe_int pa_nil))) (fun _ _ => rfl))))))))))), ?_⟩
      have S : Vs b c s H H := Vs.refl
      have r_x := hx
      have hst0 := hst
      cases hv with
      | int _ _ i =>
        obtain ⟨a, ws, rfl, hs⟩ := inv_tag (.int i) hx
        simp only [Vl.tag] at hs
        refine ⟨_, rfl, a, _, _, _, rfl, rfl, hs, at0, rfl, _, rfl, iteN (by decide +kernel) (iteF (A := _) ?_)⟩
        refine ⟨_, rfl, a, _, _, _, rfl, rfl, hs, at0, rfl, _, rfl, iteN (by decide +kernel) (iteF (A := _) ?_)⟩
        refine ⟨_, rfl, a, _, _, _, rfl, rfl, hs, at0, rfl, _, rfl, iteN (by decide +kernel) ?_⟩
        refine ⟨_, rfl, a, _, _, _, rfl, rfl, hs, at0, rfl, _, rfl, iteN (by decide +kernel) (iteF (A := _) ?_)⟩
        refine ⟨_, rfl, a, _, _, _, rfl, rfl, hs, at0, rfl, _, rfl, iteN (by decide +kernel) ?_⟩
        refine ⟨_, rfl, a, _, _, _, rfl, rfl, hs, at0, rfl, _, rfl, iteY (by decide +kernel) (iteT (B := _) ?_)⟩
        refine ⟨Nat.zero_le _, fun e h_e => ?_⟩
        have s_e : Sm H (upd H e (.tup [])) := Sm.new h_e
        have r_e : Rp K (upd H e (.tup [])) (.ref e) (.tuple _) := Rp.mk upd_same (RpAll.on (.nil) (KT.upd_new h_e))
        replace hB := hB.keep fun a o e _ => s_e a o e
        replace hst := hst.sm s_e
        replace S := S.sm s_e
        clear h_e
        clear s_e
        generalize (upd H e (.tup [])) = Hq1 at hB hst r_e S ⊢
        refine ⟨(show 2 ≤ sizeLine by decide), fun t h_t => ?_⟩
        have s_t : Sm Hq1 (upd Hq1 t (.tup [.str "tuple", .ref e])) := Sm.new h_t
        have r_t : Rp K (upd Hq1 t (.tup [.str "tuple", .ref e])) (.ref t) (.tuple _) := Rp.mk upd_same (RpAll.on (.cons sok (.cons r_e .nil)) (KT.upd_new h_t))
        replace hB := hB.keep fun a o e _ => s_t a o e
        replace hst := hst.sm s_t
        replace r_e := r_e.on (KT.same s_t)
        replace S := S.sm s_t
        clear h_t
        clear s_t
        generalize (upd Hq1 t (.tup [.str "tuple", .ref e])) = Hq2 at hB hst r_e r_t S ⊢
        refine ⟨(show 4 ≤ sizeLine by decide), fun u h_u => ?_⟩
        have s_u : Sm Hq2 (upd Hq2 u (.tup [.str "con", .int 0, .str "Nil", .non])) := Sm.new h_u
        have r_u : Rp K (upd Hq2 u (.tup [.str "con", .int 0, .str "Nil", .non])) (.ref u) (.tuple _) := Rp.mk upd_same (RpAll.on (.cons sok (.cons (.int _) (.cons sok (.cons .non .nil)))) (KT.upd_new h_u))
        replace hB := hB.keep fun a o e _ => s_u a o e
        replace hst := hst.sm s_u
        replace r_e := r_e.on (KT.same s_u)
        replace r_t := r_t.on (KT.same s_u)
        replace S := S.sm s_u
        clear h_u
        clear s_u
        generalize (upd Hq2 u (.tup [.str "con", .int 0, .str "Nil", .non])) = Hq3 at hB hst r_e r_t r_u S ⊢
        refine ⟨(show 3 ≤ sizeLine by decide), fun y h_y => ?_⟩
        have s_y : Sm Hq3 (upd Hq3 y (.tup [.str "exn", .int 4, .str "E"])) := Sm.new h_y
        have r_y : Rp K (upd Hq3 y (.tup [.str "exn", .int 4, .str "E"])) (.ref y) (.tuple _) := Rp.mk upd_same (RpAll.on (.cons sok (.cons (.int _) (.cons sok .nil))) (KT.upd_new h_y))
        replace hB := hB.keep fun a o e _ => s_y a o e
        replace hst := hst.sm s_y
        replace r_e := r_e.on (KT.same s_y)
        replace r_t := r_t.on (KT.same s_y)
        replace r_u := r_u.on (KT.same s_y)
        replace S := S.sm s_y
        clear h_y
        clear s_y
        generalize (upd Hq3 y (.tup [.str "exn", .int 4, .str "E"])) = Hq4 at hB hst r_e r_t r_u r_y S ⊢
        refine ⟨(show 3 ≤ sizeLine by decide), fun L h_L => ?_⟩
        have s_L : Sm Hq4 (upd Hq4 L (.lst [.ref t, .ref u, .ref y])) := Sm.new h_L
        have o_L : (upd Hq4 L (.lst [.ref t, .ref u, .ref y])) L = some (.lst [.ref t, .ref u, .ref y]) := upd_same
        replace hB := hB.keep fun a o e _ => s_L a o e
        replace hst := hst.sm s_L
        replace r_e := r_e.on (KT.same s_L)
        replace r_t := r_t.on (KT.same s_L)
        replace r_u := r_u.on (KT.same s_L)
        replace r_y := r_y.on (KT.same s_L)
        replace S := S.sm s_L
        clear h_L
        clear s_L
        generalize (upd Hq4 L (.lst [.ref t, .ref u, .ref y])) = Hq5 at hB hst r_e r_t r_u r_y o_L S ⊢
        refine ⟨_, rfl, b, c, 3, rfl, by decide, by decide, hB, fun r1 H1 r10 r11 hx1 hB1 => ?_⟩
        replace hst := hst.bx hB hx1
        replace r_e := r_e.on (hB.kt hx1)
        replace r_t := r_t.on (hB.kt hx1)
        replace r_u := r_u.on (hB.kt hx1)
        replace r_y := r_y.on (hB.kt hx1)
        replace o_L := (hx1 _ (hB.off2 o_L).1 (hB.off2 o_L).2).trans o_L
        replace S := S.bx hx1
        replace hB := hB1
        have h3 : r1 = 0 ∨ r1 = 1 ∨ r1 = 2 := by omega
        rcases h3 with rfl | rfl | rfl
        · exact ⟨L, _, _, _, rfl, rfl, SqL.of o_L, rfl, k _ _ (.tup []) st S hB hst (by simpa [Vl.d, Vl.ds] using r_t) (.kind _ _ _ (by simp only [Vl.tag]; decide +kernel) (by simp only [Vl.tag]; decide +kernel) (by simp only [Vl.tag]; decide +kernel)) (by simp [Vl.oka, Vl.okas])⟩
        · exact ⟨L, _, _, _, rfl, rfl, SqL.of o_L, rfl, k _ _ (.con0 0 "Nil") st S hB hst (by simpa [Vl.d, Vl.ds] using r_u) (.kind _ _ _ (by simp only [Vl.tag]; decide +kernel) (by simp only [Vl.tag]; decide +kernel) (by simp only [Vl.tag]; decide +kernel)) (by simp [Vl.oka])⟩
        · exact ⟨L, _, _, _, rfl, rfl, SqL.of o_L, rfl, k _ _ (.oth "exn" [.int 4, .str "E"]) st S hB hst (by simpa [Vl.d, Vl.ds] using r_y) (.kind _ _ _ (by simp only [Vl.tag]; decide +kernel) (by simp only [Vl.tag]; decide +kernel) (by simp only [Vl.tag]; decide +kernel)) (by simp only [Vl.oka]; decide +kernel)⟩
      | exn _ _ rr =>
        obtain ⟨a, ws, rfl, hs⟩ := inv_tag (.oth "packet" rr) hx
        simp only [Vl.tag] at hs
        refine ⟨_, rfl, a, _, _, _, rfl, rfl, hs, at0, rfl, _, rfl, iteN (by decide +kernel) (iteF (A := _) ?_)⟩
        refine ⟨_, rfl, a, _, _, _, rfl, rfl, hs, at0, rfl, _, rfl, iteN (by decide +kernel) (iteF (A := _) ?_)⟩
        refine ⟨_, rfl, a, _, _, _, rfl, rfl, hs, at0, rfl, _, rfl, iteN (by decide +kernel) ?_⟩
        refine ⟨_, rfl, a, _, _, _, rfl, rfl, hs, at0, rfl, _, rfl, iteN (by decide +kernel) (iteF (A := _) ?_)⟩
        refine ⟨_, rfl, a, _, _, _, rfl, rfl, hs, at0, rfl, _, rfl, iteN (by decide +kernel) ?_⟩
        refine ⟨_, rfl, a, _, _, _, rfl, rfl, hs, at0, rfl, _, rfl, iteN (by decide +kernel) ⟨_, rfl, a, _, _, _, rfl, rfl, hs, at0, rfl, _, rfl, iteY (by decide +kernel) ?_⟩⟩
        refine ⟨Nat.zero_le _, fun e h_e => ?_⟩
        have s_e : Sm H (upd H e (.tup [])) := Sm.new h_e
        have r_e : Rp K (upd H e (.tup [])) (.ref e) (.tuple _) := Rp.mk upd_same (RpAll.on (.nil) (KT.upd_new h_e))
        replace hB := hB.keep fun a o e _ => s_e a o e
        replace hst := hst.sm s_e
        replace S := S.sm s_e
        clear h_e
        clear s_e
        generalize (upd H e (.tup [])) = Hq6 at hB hst r_e S ⊢
        refine ⟨(show 2 ≤ sizeLine by decide), fun t h_t => ?_⟩
        have s_t : Sm Hq6 (upd Hq6 t (.tup [.str "tuple", .ref e])) := Sm.new h_t
        have r_t : Rp K (upd Hq6 t (.tup [.str "tuple", .ref e])) (.ref t) (.tuple _) := Rp.mk upd_same (RpAll.on (.cons sok (.cons r_e .nil)) (KT.upd_new h_t))
        replace hB := hB.keep fun a o e _ => s_t a o e
        replace hst := hst.sm s_t
        replace r_e := r_e.on (KT.same s_t)
        replace S := S.sm s_t
        clear h_t
        clear s_t
        generalize (upd Hq6 t (.tup [.str "tuple", .ref e])) = Hq7 at hB hst r_e r_t S ⊢
        refine ⟨(show 4 ≤ sizeLine by decide), fun u h_u => ?_⟩
        have s_u : Sm Hq7 (upd Hq7 u (.tup [.str "con", .int 0, .str "Nil", .non])) := Sm.new h_u
        have r_u : Rp K (upd Hq7 u (.tup [.str "con", .int 0, .str "Nil", .non])) (.ref u) (.tuple _) := Rp.mk upd_same (RpAll.on (.cons sok (.cons (.int _) (.cons sok (.cons .non .nil)))) (KT.upd_new h_u))
        replace hB := hB.keep fun a o e _ => s_u a o e
        replace hst := hst.sm s_u
        replace r_e := r_e.on (KT.same s_u)
        replace r_t := r_t.on (KT.same s_u)
        replace S := S.sm s_u
        clear h_u
        clear s_u
        generalize (upd Hq7 u (.tup [.str "con", .int 0, .str "Nil", .non])) = Hq8 at hB hst r_e r_t r_u S ⊢
        refine ⟨(show 3 ≤ sizeLine by decide), fun y h_y => ?_⟩
        have s_y : Sm Hq8 (upd Hq8 y (.tup [.str "exn", .int 4, .str "E"])) := Sm.new h_y
        have r_y : Rp K (upd Hq8 y (.tup [.str "exn", .int 4, .str "E"])) (.ref y) (.tuple _) := Rp.mk upd_same (RpAll.on (.cons sok (.cons (.int _) (.cons sok .nil))) (KT.upd_new h_y))
        replace hB := hB.keep fun a o e _ => s_y a o e
        replace hst := hst.sm s_y
        replace r_e := r_e.on (KT.same s_y)
        replace r_t := r_t.on (KT.same s_y)
        replace r_u := r_u.on (KT.same s_y)
        replace S := S.sm s_y
        clear h_y
        clear s_y
        generalize (upd Hq8 y (.tup [.str "exn", .int 4, .str "E"])) = Hq9 at hB hst r_e r_t r_u r_y S ⊢
        refine ⟨(show 3 ≤ sizeLine by decide), fun L h_L => ?_⟩
        have s_L : Sm Hq9 (upd Hq9 L (.lst [.ref t, .ref u, .ref y])) := Sm.new h_L
        have o_L : (upd Hq9 L (.lst [.ref t, .ref u, .ref y])) L = some (.lst [.ref t, .ref u, .ref y]) := upd_same
        replace hB := hB.keep fun a o e _ => s_L a o e
        replace hst := hst.sm s_L
        replace r_e := r_e.on (KT.same s_L)
        replace r_t := r_t.on (KT.same s_L)
        replace r_u := r_u.on (KT.same s_L)
        replace r_y := r_y.on (KT.same s_L)
        replace S := S.sm s_L
        clear h_L
        clear s_L
        generalize (upd Hq9 L (.lst [.ref t, .ref u, .ref y])) = Hq10 at hB hst r_e r_t r_u r_y o_L S ⊢
        refine ⟨_, rfl, b, c, 3, rfl, by decide, by decide, hB, fun r1 H1 r10 r11 hx1 hB1 => ?_⟩
        replace hst := hst.bx hB hx1
        replace r_e := r_e.on (hB.kt hx1)
        replace r_t := r_t.on (hB.kt hx1)
        replace r_u := r_u.on (hB.kt hx1)
        replace r_y := r_y.on (hB.kt hx1)
        replace o_L := (hx1 _ (hB.off2 o_L).1 (hB.off2 o_L).2).trans o_L
        replace S := S.bx hx1
        replace hB := hB1
        have h3 : r1 = 0 ∨ r1 = 1 ∨ r1 = 2 := by omega
        rcases h3 with rfl | rfl | rfl
        · exact ⟨L, _, _, _, rfl, rfl, SqL.of o_L, rfl, k _ _ (.tup []) st S hB hst (by simpa [Vl.d, Vl.ds] using r_t) (.kind _ _ _ (by simp only [Vl.tag]; decide +kernel) (by simp only [Vl.tag]; decide +kernel) (by simp only [Vl.tag]; decide +kernel)) (by simp [Vl.oka, Vl.okas])⟩
        · exact ⟨L, _, _, _, rfl, rfl, SqL.of o_L, rfl, k _ _ (.con0 0 "Nil") st S hB hst (by simpa [Vl.d, Vl.ds] using r_u) (.kind _ _ _ (by simp only [Vl.tag]; decide +kernel) (by simp only [Vl.tag]; decide +kernel) (by simp only [Vl.tag]; decide +kernel)) (by simp [Vl.oka])⟩
        · exact ⟨L, _, _, _, rfl, rfl, SqL.of o_L, rfl, k _ _ (.oth "exn" [.int 4, .str "E"]) st S hB hst (by simpa [Vl.d, Vl.ds] using r_y) (.kind _ _ _ (by simp only [Vl.tag]; decide +kernel) (by simp only [Vl.tag]; decide +kernel) (by simp only [Vl.tag]; decide +kernel)) (by simp only [Vl.oka]; decide +kernel)⟩
      | unit =>
        obtain ⟨a, g, gs, rfl, hs, hg, hgs⟩ := inv_tup hx
        have er := RpAll.nil_inv (by simpa [Vl.ds] using hgs)
        subst er
        refine ⟨_, rfl, a, _, _, _, rfl, rfl, hs, at0, rfl, _, rfl, iteY (by decide +kernel) ⟨_, rfl, a, _, _, _, rfl, rfl, hs, at1, g, _, rfl, .inr hg, _, _, rfl, rfl, _, rfl, iteF (A := _) (iteF (A := _) ?_)⟩⟩
        refine ⟨_, rfl, a, _, _, _, rfl, rfl, hs, at0, rfl, _, rfl, iteN (by decide +kernel) (iteF (A := _) ?_)⟩
        refine ⟨_, rfl, a, _, _, _, rfl, rfl, hs, at0, rfl, _, rfl, iteN (by decide +kernel) ?_⟩
        refine ⟨_, rfl, a, _, _, _, rfl, rfl, hs, at0, rfl, _, rfl, iteN (by decide +kernel) (iteF (A := _) ?_)⟩
        refine ⟨_, rfl, a, _, _, _, rfl, rfl, hs, at0, rfl, _, rfl, iteN (by decide +kernel) ?_⟩
        refine ⟨_, rfl, a, _, _, _, rfl, rfl, hs, at0, rfl, _, rfl, iteN (by decide +kernel) ⟨_, rfl, a, _, _, _, rfl, rfl, hs, at0, rfl, _, rfl, iteN (by decide +kernel) ?_⟩⟩
        refine ⟨_, rfl, a, _, _, _, rfl, rfl, hs, at0, rfl, _, rfl, iteY (by decide +kernel) ⟨_, rfl, a, _, _, _, rfl, rfl, hs, at1, g, _, rfl, .inr hg, _, _, rfl, rfl, _, rfl, iteF (A := _) ?_⟩⟩
        refine ⟨(show 2 ≤ sizeLine by decide), fun e h_e => ?_⟩
        have s_e : Sm H (upd H e (.tup [.str "int", .int 0])) := Sm.new h_e
        have r_e : Rp K (upd H e (.tup [.str "int", .int 0])) (.ref e) (.tuple _) := Rp.mk upd_same (RpAll.on (.cons sok (.cons (.int _) .nil)) (KT.upd_new h_e))
        replace hB := hB.keep fun a o e _ => s_e a o e
        replace hst := hst.sm s_e
        replace r_x := r_x.on (KT.same s_e)
        replace S := S.sm s_e
        clear h_e
        clear s_e
        generalize (upd H e (.tup [.str "int", .int 0])) = Hq11 at hB hst r_x r_e S ⊢
        refine ⟨(show 2 ≤ sizeLine by decide), fun e2 h_e2 => ?_⟩
        have s_e2 : Sm Hq11 (upd Hq11 e2 (.tup [.str "int", .int 0])) := Sm.new h_e2
        have r_e2 : Rp K (upd Hq11 e2 (.tup [.str "int", .int 0])) (.ref e2) (.tuple _) := Rp.mk upd_same (RpAll.on (.cons sok (.cons (.int _) .nil)) (KT.upd_new h_e2))
        replace hB := hB.keep fun a o e _ => s_e2 a o e
        replace hst := hst.sm s_e2
        replace r_x := r_x.on (KT.same s_e2)
        replace r_e := r_e.on (KT.same s_e2)
        replace S := S.sm s_e2
        clear h_e2
        clear s_e2
        generalize (upd Hq11 e2 (.tup [.str "int", .int 0])) = Hq12 at hB hst r_x r_e r_e2 S ⊢
        refine ⟨_, rfl, (show 2 ≤ sizeLine by decide), fun t h_t => ?_⟩
        have s_t : Sm Hq12 (upd Hq12 t (.tup [.ref e2, .ref a])) := Sm.new h_t
        have r_t : Rp K (upd Hq12 t (.tup [.ref e2, .ref a])) (.ref t) (.tuple _) := Rp.mk upd_same (RpAll.on (.cons r_e2 (.cons r_x .nil)) (KT.upd_new h_t))
        replace hB := hB.keep fun a o e _ => s_t a o e
        replace hst := hst.sm s_t
        replace r_x := r_x.on (KT.same s_t)
        replace r_e := r_e.on (KT.same s_t)
        replace r_e2 := r_e2.on (KT.same s_t)
        replace S := S.sm s_t
        clear h_t
        clear s_t
        generalize (upd Hq12 t (.tup [.ref e2, .ref a])) = Hq13 at hB hst r_x r_e r_e2 r_t S ⊢
        refine ⟨(show 2 ≤ sizeLine by decide), fun u h_u => ?_⟩
        have s_u : Sm Hq13 (upd Hq13 u (.tup [.str "tuple", .ref t])) := Sm.new h_u
        have r_u : Rp K (upd Hq13 u (.tup [.str "tuple", .ref t])) (.ref u) (.tuple _) := Rp.mk upd_same (RpAll.on (.cons sok (.cons r_t .nil)) (KT.upd_new h_u))
        replace hB := hB.keep fun a o e _ => s_u a o e
        replace hst := hst.sm s_u
        replace r_x := r_x.on (KT.same s_u)
        replace r_e := r_e.on (KT.same s_u)
        replace r_e2 := r_e2.on (KT.same s_u)
        replace r_t := r_t.on (KT.same s_u)
        replace S := S.sm s_u
        clear h_u
        clear s_u
        generalize (upd Hq13 u (.tup [.str "tuple", .ref t])) = Hq14 at hB hst r_x r_e r_e2 r_t r_u S ⊢
        refine ⟨(show 3 ≤ sizeLine by decide), fun y h_y => ?_⟩
        have s_y : Sm Hq14 (upd Hq14 y (.tup [.str "exn", .int 4, .str "E"])) := Sm.new h_y
        have r_y : Rp K (upd Hq14 y (.tup [.str "exn", .int 4, .str "E"])) (.ref y) (.tuple _) := Rp.mk upd_same (RpAll.on (.cons sok (.cons (.int _) (.cons sok .nil))) (KT.upd_new h_y))
        replace hB := hB.keep fun a o e _ => s_y a o e
        replace hst := hst.sm s_y
        replace r_x := r_x.on (KT.same s_y)
        replace r_e := r_e.on (KT.same s_y)
        replace r_e2 := r_e2.on (KT.same s_y)
        replace r_t := r_t.on (KT.same s_y)
        replace r_u := r_u.on (KT.same s_y)
        replace S := S.sm s_y
        clear h_y
        clear s_y
        generalize (upd Hq14 y (.tup [.str "exn", .int 4, .str "E"])) = Hq15 at hB hst r_x r_e r_e2 r_t r_u r_y S ⊢
        refine ⟨(show 3 ≤ sizeLine by decide), fun L h_L => ?_⟩
        have s_L : Sm Hq15 (upd Hq15 L (.lst [.ref e, .ref u, .ref y])) := Sm.new h_L
        have o_L : (upd Hq15 L (.lst [.ref e, .ref u, .ref y])) L = some (.lst [.ref e, .ref u, .ref y]) := upd_same
        replace hB := hB.keep fun a o e _ => s_L a o e
        replace hst := hst.sm s_L
        replace r_x := r_x.on (KT.same s_L)
        replace r_e := r_e.on (KT.same s_L)
        replace r_e2 := r_e2.on (KT.same s_L)
        replace r_t := r_t.on (KT.same s_L)
        replace r_u := r_u.on (KT.same s_L)
        replace r_y := r_y.on (KT.same s_L)
        replace S := S.sm s_L
        clear h_L
        clear s_L
        generalize (upd Hq15 L (.lst [.ref e, .ref u, .ref y])) = Hq16 at hB hst r_x r_e r_e2 r_t r_u r_y o_L S ⊢
        refine ⟨_, rfl, b, c, 3, rfl, by decide, by decide, hB, fun r1 H1 r10 r11 hx1 hB1 => ?_⟩
        replace hst := hst.bx hB hx1
        replace r_x := r_x.on (hB.kt hx1)
        replace r_e := r_e.on (hB.kt hx1)
        replace r_e2 := r_e2.on (hB.kt hx1)
        replace r_t := r_t.on (hB.kt hx1)
        replace r_u := r_u.on (hB.kt hx1)
        replace r_y := r_y.on (hB.kt hx1)
        replace o_L := (hx1 _ (hB.off2 o_L).1 (hB.off2 o_L).2).trans o_L
        replace S := S.bx hx1
        replace hB := hB1
        have h3 : r1 = 0 ∨ r1 = 1 ∨ r1 = 2 := by omega
        rcases h3 with rfl | rfl | rfl
        · exact ⟨L, _, _, _, rfl, rfl, SqL.of o_L, rfl, k _ _ (.int 0) st S hB hst (by simpa [Vl.d, Vl.ds] using r_e) (.kind _ _ _ (by simp only [Vl.tag]; decide +kernel) (by simp only [Vl.tag]; decide +kernel) (by simp only [Vl.tag]; decide +kernel)) (by simp [Vl.oka, Vl.okas])⟩
        · exact ⟨L, _, _, _, rfl, rfl, SqL.of o_L, rfl, k _ _ (.tup [.int 0, .tup []]) st S hB hst (by simpa [Vl.d, Vl.ds] using r_u) (.many _ _ _ (by simp)) (by simp [Vl.oka, Vl.okas])⟩
        · exact ⟨L, _, _, _, rfl, rfl, SqL.of o_L, rfl, k _ _ (.oth "exn" [.int 4, .str "E"]) st S hB hst (by simpa [Vl.d, Vl.ds] using r_y) (.kind _ _ _ (by simp only [Vl.tag]; decide +kernel) (by simp only [Vl.tag]; decide +kernel) (by simp only [Vl.tag]; decide +kernel)) (by simp only [Vl.oka]; decide +kernel)⟩
      | fn _ _ p q gg rr e =>
        obtain ⟨a, ws, rfl, hs⟩ := inv_tag (.oth gg rr) hx
        simp only [Vl.tag] at hs
        have hoka : (Vl.oth gg rr).oka := by rcases e with e | e <;> subst e <;> simp only [Vl.oka] <;> decide +kernel
        have ng : gg ≠ "tuple" ∧ gg ≠ "con" ∧ gg ≠ "ref" ∧ gg ≠ "int" ∧ gg ≠ "packet" ∧ ("int" : Str) ≠ gg ∧ ("tuple" : Str) ≠ gg ∧ ("exn" : Str) ≠ gg := by rcases e with e | e <;> subst e <;> decide +kernel
        obtain ⟨g1, g2, g3, g4, g5, g6, g7, g8⟩ := ng
        refine ⟨_, rfl, a, _, _, _, rfl, rfl, hs, at0, rfl, _, rfl, iteN (str_ne g1) (iteF (A := _) ?_)⟩
        refine ⟨_, rfl, a, _, _, _, rfl, rfl, hs, at0, rfl, _, rfl, iteN (str_ne g2) (iteF (A := _) ?_)⟩
        refine ⟨_, rfl, a, _, _, _, rfl, rfl, hs, at0, rfl, _, rfl, iteN (str_ne g2) ?_⟩
        refine ⟨_, rfl, a, _, _, _, rfl, rfl, hs, at0, rfl, _, rfl, iteN (str_ne g3) (iteF (A := _) ?_)⟩
        refine ⟨_, rfl, a, _, _, _, rfl, rfl, hs, at0, rfl, _, rfl, iteN (str_ne g3) ?_⟩
        refine ⟨_, rfl, a, _, _, _, rfl, rfl, hs, at0, rfl, _, rfl, iteN (str_ne g4) ⟨_, rfl, a, _, _, _, rfl, rfl, hs, at0, rfl, _, rfl, iteN (str_ne g5) ?_⟩⟩
        refine ⟨_, rfl, a, _, _, _, rfl, rfl, hs, at0, rfl, _, rfl, iteN (str_ne g1) (iteF (A := _) ?_)⟩
        refine ⟨(show 2 ≤ sizeLine by decide), fun e h_e => ?_⟩
        have s_e : Sm H (upd H e (.tup [.str "int", .int 0])) := Sm.new h_e
        have r_e : Rp K (upd H e (.tup [.str "int", .int 0])) (.ref e) (.tuple _) := Rp.mk upd_same (RpAll.on (.cons sok (.cons (.int _) .nil)) (KT.upd_new h_e))
        replace hB := hB.keep fun a o e _ => s_e a o e
        replace hst := hst.sm s_e
        replace r_x := r_x.on (KT.same s_e)
        replace S := S.sm s_e
        clear h_e
        clear s_e
        generalize (upd H e (.tup [.str "int", .int 0])) = Hq17 at hB hst r_x r_e S ⊢
        refine ⟨(show 2 ≤ sizeLine by decide), fun e2 h_e2 => ?_⟩
        have s_e2 : Sm Hq17 (upd Hq17 e2 (.tup [.str "int", .int 0])) := Sm.new h_e2
        have r_e2 : Rp K (upd Hq17 e2 (.tup [.str "int", .int 0])) (.ref e2) (.tuple _) := Rp.mk upd_same (RpAll.on (.cons sok (.cons (.int _) .nil)) (KT.upd_new h_e2))
        replace hB := hB.keep fun a o e _ => s_e2 a o e
        replace hst := hst.sm s_e2
        replace r_x := r_x.on (KT.same s_e2)
        replace r_e := r_e.on (KT.same s_e2)
        replace S := S.sm s_e2
        clear h_e2
        clear s_e2
        generalize (upd Hq17 e2 (.tup [.str "int", .int 0])) = Hq18 at hB hst r_x r_e r_e2 S ⊢
        refine ⟨_, rfl, (show 2 ≤ sizeLine by decide), fun t h_t => ?_⟩
        have s_t : Sm Hq18 (upd Hq18 t (.tup [.ref e2, .ref a])) := Sm.new h_t
        have r_t : Rp K (upd Hq18 t (.tup [.ref e2, .ref a])) (.ref t) (.tuple _) := Rp.mk upd_same (RpAll.on (.cons r_e2 (.cons r_x .nil)) (KT.upd_new h_t))
        replace hB := hB.keep fun a o e _ => s_t a o e
        replace hst := hst.sm s_t
        replace r_x := r_x.on (KT.same s_t)
        replace r_e := r_e.on (KT.same s_t)
        replace r_e2 := r_e2.on (KT.same s_t)
        replace S := S.sm s_t
        clear h_t
        clear s_t
        generalize (upd Hq18 t (.tup [.ref e2, .ref a])) = Hq19 at hB hst r_x r_e r_e2 r_t S ⊢
        refine ⟨(show 2 ≤ sizeLine by decide), fun u h_u => ?_⟩
        have s_u : Sm Hq19 (upd Hq19 u (.tup [.str "tuple", .ref t])) := Sm.new h_u
        have r_u : Rp K (upd Hq19 u (.tup [.str "tuple", .ref t])) (.ref u) (.tuple _) := Rp.mk upd_same (RpAll.on (.cons sok (.cons r_t .nil)) (KT.upd_new h_u))
        replace hB := hB.keep fun a o e _ => s_u a o e
        replace hst := hst.sm s_u
        replace r_x := r_x.on (KT.same s_u)
        replace r_e := r_e.on (KT.same s_u)
        replace r_e2 := r_e2.on (KT.same s_u)
        replace r_t := r_t.on (KT.same s_u)
        replace S := S.sm s_u
        clear h_u
        clear s_u
        generalize (upd Hq19 u (.tup [.str "tuple", .ref t])) = Hq20 at hB hst r_x r_e r_e2 r_t r_u S ⊢
        refine ⟨(show 3 ≤ sizeLine by decide), fun y h_y => ?_⟩
        have s_y : Sm Hq20 (upd Hq20 y (.tup [.str "exn", .int 4, .str "E"])) := Sm.new h_y
        have r_y : Rp K (upd Hq20 y (.tup [.str "exn", .int 4, .str "E"])) (.ref y) (.tuple _) := Rp.mk upd_same (RpAll.on (.cons sok (.cons (.int _) (.cons sok .nil))) (KT.upd_new h_y))
        replace hB := hB.keep fun a o e _ => s_y a o e
        replace hst := hst.sm s_y
        replace r_x := r_x.on (KT.same s_y)
        replace r_e := r_e.on (KT.same s_y)
        replace r_e2 := r_e2.on (KT.same s_y)
        replace r_t := r_t.on (KT.same s_y)
        replace r_u := r_u.on (KT.same s_y)
        replace S := S.sm s_y
        clear h_y
        clear s_y
        generalize (upd Hq20 y (.tup [.str "exn", .int 4, .str "E"])) = Hq21 at hB hst r_x r_e r_e2 r_t r_u r_y S ⊢
        refine ⟨(show 3 ≤ sizeLine by decide), fun L h_L => ?_⟩
        have s_L : Sm Hq21 (upd Hq21 L (.lst [.ref e, .ref u, .ref y])) := Sm.new h_L
        have o_L : (upd Hq21 L (.lst [.ref e, .ref u, .ref y])) L = some (.lst [.ref e, .ref u, .ref y]) := upd_same
        replace hB := hB.keep fun a o e _ => s_L a o e
        replace hst := hst.sm s_L
        replace r_x := r_x.on (KT.same s_L)
        replace r_e := r_e.on (KT.same s_L)
        replace r_e2 := r_e2.on (KT.same s_L)
        replace r_t := r_t.on (KT.same s_L)
        replace r_u := r_u.on (KT.same s_L)
        replace r_y := r_y.on (KT.same s_L)
        replace S := S.sm s_L
        clear h_L
        clear s_L
        generalize (upd Hq21 L (.lst [.ref e, .ref u, .ref y])) = Hq22 at hB hst r_x r_e r_e2 r_t r_u r_y o_L S ⊢
        refine ⟨_, rfl, b, c, 3, rfl, by decide, by decide, hB, fun r1 H1 r10 r11 hx1 hB1 => ?_⟩
        replace hst := hst.bx hB hx1
        replace r_x := r_x.on (hB.kt hx1)
        replace r_e := r_e.on (hB.kt hx1)
        replace r_e2 := r_e2.on (hB.kt hx1)
        replace r_t := r_t.on (hB.kt hx1)
        replace r_u := r_u.on (hB.kt hx1)
        replace r_y := r_y.on (hB.kt hx1)
        replace o_L := (hx1 _ (hB.off2 o_L).1 (hB.off2 o_L).2).trans o_L
        replace S := S.bx hx1
        replace hB := hB1
        have h3 : r1 = 0 ∨ r1 = 1 ∨ r1 = 2 := by omega
        rcases h3 with rfl | rfl | rfl
        · exact ⟨L, _, _, _, rfl, rfl, SqL.of o_L, rfl, k _ _ (.int 0) st S hB hst (by simpa [Vl.d, Vl.ds] using r_e) (.kind _ _ _ g6 (by simp only [Vl.tag]; decide +kernel) (by simp only [Vl.tag]; decide +kernel)) (by simp [Vl.oka, Vl.okas])⟩
        · exact ⟨L, _, _, _, rfl, rfl, SqL.of o_L, rfl, k _ _ (.tup [.int 0, .oth gg rr]) st S hB hst (by simpa [Vl.d, Vl.ds] using r_u) (.kind _ _ _ g7 (by simp only [Vl.tag]; decide +kernel) (by simp only [Vl.tag]; decide +kernel)) (by simp only [Vl.oka, Vl.okas, and_true, true_and]; exact hoka)⟩
        · exact ⟨L, _, _, _, rfl, rfl, SqL.of o_L, rfl, k _ _ (.oth "exn" [.int 4, .str "E"]) st S hB hst (by simpa [Vl.d, Vl.ds] using r_y) (.kind _ _ _ g8 (by simp only [Vl.tag]; decide +kernel) (by simp only [Vl.tag]; decide +kernel)) (by simp only [Vl.oka]; decide +kernel)⟩
      | pair _ _ p q x y h1 h2 =>
        obtain ⟨a, g, gs, rfl, hs, hg, hgs⟩ := inv_tup hx
        simp only [Vl.ds] at hgs
        obtain ⟨x1, w1, rfl, r_x1, hgs⟩ := hgs.cons_inv
        obtain ⟨y1, w2, rfl, r_y1, hgs⟩ := hgs.cons_inv
        have er := RpAll.nil_inv hgs
        subst er
        clear hgs
        refine ⟨_, rfl, a, _, _, _, rfl, rfl, hs, at0, rfl, _, rfl, iteY (by decide +kernel) ⟨_, rfl, a, _, _, _, rfl, rfl, hs, at1, g, _, rfl, .inr hg, _, _, rfl, rfl, _, rfl, iteT (B := _) ?_⟩⟩
        refine ⟨_, rfl, b, c, 4, rfl, by decide, by decide, hB, fun r2 H2 r20 r21 hx2 hB2 => ?_⟩
        replace hst := hst.bx hB hx2
        replace hs := (hB.kt hx2).sqt hs
        replace hg := (hB.kt hx2).sqt hg
        replace r_x1 := r_x1.on (hB.kt hx2)
        replace r_y1 := r_y1.on (hB.kt hx2)
        replace S := S.bx hx2
        replace hB := hB2
        refine ⟨_, _, rfl, rfl, _, rfl, ?_⟩
        by_cases h0 : 0 < r2
        · rw [decide_eq_true h0]
          refine iteT (B := _) ?_
          refine ⟨_, rfl, _, rfl, a, _, _, _, rfl, rfl, hs, at1, g, _, rfl, .inr hg, b, c, ((2 : Nat) : Int), rfl, by decide, by decide, hB, fun at_ H3 a0 a1 hx3 hB3 => ?_⟩
          replace hst := hst.bx hB hx3
          replace hs := (hB.kt hx3).sqt hs
          replace hg := (hB.kt hx3).sqt hg
          replace r_x1 := r_x1.on (hB.kt hx3)
          replace r_y1 := r_y1.on (hB.kt hx3)
          replace S := S.bx hx3
          replace hB := hB3
          have h01 : at_ = 0 ∨ at_ = 1 := by
            have : at_ < 2 := a1
            omega
          rcases h01 with rfl | rfl
          · refine ⟨_, rfl, _, rfl, a, _, _, _, rfl, rfl, hs, at1, _, rfl, g, _, _, _, rfl, rfl, hg, at0, _, rfl, b, c, s, x1, _, p, st, x, rfl, h1, hB, hst, r_x1, fun r H4 w st4 hv4 hB4 hst4 rw sp ok => ?_⟩
            replace hs := (hB.ktv hst hv4).sqt hs
            replace hg := (hB.ktv hst hv4).sqt hg
            replace r_x1 := r_x1.on (hB.ktv hst hv4)
            replace r_y1 := r_y1.on (hB.ktv hst hv4)
            replace S := S.trans hv4
            replace hB := hB4
            replace hst := hst4
            refine ⟨_, rfl, a, _, _, _, rfl, rfl, hs, at1, _, rfl, _, rfl, g, _, rfl, hg, (fun z => absurd (show HT.sIx 2 2 (some 0) = 2 from z.2) (by decide)), fun p1 h_p1 => ?_⟩
            rw [show cutV [x1, y1] none (some 0) = [] from rfl]
            have s_p1 : Sm H4 (upd H4 p1 (.tup [])) := Sm.new h_p1
            have q_p1 : SqT K (upd H4 p1 (.tup [])) p1 [] := .inl (Rd.of upd_same)
            replace hB := hB.keep fun a o e _ => s_p1 a o e
            replace hst := hst.sm s_p1
            replace hs := (KT.same s_p1).sqt hs
            replace hg := (KT.same s_p1).sqt hg
            replace r_x1 := r_x1.on (KT.same s_p1)
            replace r_y1 := r_y1.on (KT.same s_p1)
            replace rw := rw.on (KT.same s_p1)
            replace S := S.sm s_p1
            clear h_p1
            clear s_p1
            generalize (upd H4 p1 (.tup [])) = Hq23 at hB hst hs hg r_x1 r_y1 rw q_p1 S ⊢
            refine ⟨_, rfl, (show 1 ≤ sizeLine by decide), fun p2 h_p2 => ?_⟩
            have s_p2 : Sm Hq23 (upd Hq23 p2 (.tup [r])) := Sm.new h_p2
            have q_p2 : SqT K (upd Hq23 p2 (.tup [r])) p2 [r] := .inl (Rd.of upd_same)
            replace hB := hB.keep fun a o e _ => s_p2 a o e
            replace hst := hst.sm s_p2
            replace hs := (KT.same s_p2).sqt hs
            replace hg := (KT.same s_p2).sqt hg
            replace r_x1 := r_x1.on (KT.same s_p2)
            replace r_y1 := r_y1.on (KT.same s_p2)
            replace rw := rw.on (KT.same s_p2)
            replace q_p1 := (KT.same s_p2).sqt q_p1
            replace S := S.sm s_p2
            clear h_p2
            clear s_p2
            generalize (upd Hq23 p2 (.tup [r])) = Hq24 at hB hst hs hg r_x1 r_y1 rw q_p1 q_p2 S ⊢
            refine ⟨p1, p2, _, _, rfl, rfl, q_p1, q_p2, (small_le (show 0 + 1 ≤ 100000 by decide)), (fun _ => ?_), (fun z => absurd rfl z), (fun z => absurd rfl z)⟩
            refine ⟨_, rfl, a, _, _, _, rfl, rfl, hs, at1, _, rfl, _, _, rfl, rfl, _, rfl, g, _, rfl, hg, (fun z => absurd (show HT.sIx 2 0 (some (0 + 1)) = 0 from z.1) (by decide)), fun p3 h_p3 => ?_⟩
            rw [show cutV [x1, y1] (some (0 + 1)) none = [y1] from rfl]
            have s_p3 : Sm Hq24 (upd Hq24 p3 (.tup [y1])) := Sm.new h_p3
            have q_p3 : SqT K (upd Hq24 p3 (.tup [y1])) p3 [y1] := .inl (Rd.of upd_same)
            replace hB := hB.keep fun a o e _ => s_p3 a o e
            replace hst := hst.sm s_p3
            replace hs := (KT.same s_p3).sqt hs
            replace hg := (KT.same s_p3).sqt hg
            replace r_x1 := r_x1.on (KT.same s_p3)
            replace r_y1 := r_y1.on (KT.same s_p3)
            replace rw := rw.on (KT.same s_p3)
            replace q_p1 := (KT.same s_p3).sqt q_p1
            replace q_p2 := (KT.same s_p3).sqt q_p2
            replace S := S.sm s_p3
            clear h_p3
            clear s_p3
            generalize (upd Hq24 p3 (.tup [y1])) = Hq25 at hB hst hs hg r_x1 r_y1 rw q_p1 q_p2 q_p3 S ⊢
            refine ⟨p2, p3, _, _, rfl, rfl, q_p2, q_p3, (small_le (show 1 + 1 ≤ 100000 by decide)), (fun z => nomatch z), (fun _ z => nomatch z), fun _ _ z h_z => ?_⟩
            rw [show [r] ++ [y1] = [r, y1] from rfl]
            have s_z : Sm Hq25 (upd Hq25 z (.tup [r, y1])) := Sm.new h_z
            have q_z : SqT K (upd Hq25 z (.tup [r, y1])) z [r, y1] := .inl (Rd.of upd_same)
            replace hB := hB.keep fun a o e _ => s_z a o e
            replace hst := hst.sm s_z
            replace hs := (KT.same s_z).sqt hs
            replace hg := (KT.same s_z).sqt hg
            replace r_x1 := r_x1.on (KT.same s_z)
            replace r_y1 := r_y1.on (KT.same s_z)
            replace rw := rw.on (KT.same s_z)
            replace q_p1 := (KT.same s_z).sqt q_p1
            replace q_p2 := (KT.same s_z).sqt q_p2
            replace q_p3 := (KT.same s_z).sqt q_p3
            replace S := S.sm s_z
            clear h_z
            clear s_z
            generalize (upd Hq25 z (.tup [r, y1])) = Hq26 at hB hst hs hg r_x1 r_y1 rw q_p1 q_p2 q_p3 q_z S ⊢
            refine ⟨(show 2 ≤ sizeLine by decide), fun t h_t => ?_⟩
            have s_t : Sm Hq26 (upd Hq26 t (.tup [.str "tuple", .ref z])) := Sm.new h_t
            have r_t : Rp K (upd Hq26 t (.tup [.str "tuple", .ref z])) (.ref t) (.tuple _) := Rp.mk upd_same (RpAll.on (.cons sok (.cons (.tup (ds := [w.d, y.d]) q_z (.cons rw (.cons r_y1 .nil))) .nil)) (KT.upd_new h_t))
            replace hB := hB.keep fun a o e _ => s_t a o e
            replace hst := hst.sm s_t
            replace hs := (KT.same s_t).sqt hs
            replace hg := (KT.same s_t).sqt hg
            replace r_x1 := r_x1.on (KT.same s_t)
            replace r_y1 := r_y1.on (KT.same s_t)
            replace rw := rw.on (KT.same s_t)
            replace q_p1 := (KT.same s_t).sqt q_p1
            replace q_p2 := (KT.same s_t).sqt q_p2
            replace q_p3 := (KT.same s_t).sqt q_p3
            replace q_z := (KT.same s_t).sqt q_z
            replace S := S.sm s_t
            clear h_t
            clear s_t
            generalize (upd Hq26 t (.tup [.str "tuple", .ref z])) = Hq27 at hB hst hs hg r_x1 r_y1 rw q_p1 q_p2 q_p3 q_z r_t S ⊢
            exact k _ _ (.tup [w, y]) st4 S hB hst (by simpa [Vl.d, Vl.ds] using r_t) (.tup _ _ [x, y] 0 _ _ rfl sp) (by simp [Vl.oka, Vl.okas, ok, h2.oka])
          · refine ⟨_, rfl, _, rfl, a, _, _, _, rfl, rfl, hs, at1, _, rfl, g, _, _, _, rfl, rfl, hg, at1, _, rfl, b, c, s, y1, _, q, st, y, rfl, h2, hB, hst, r_y1, fun r H4 w st4 hv4 hB4 hst4 rw sp ok => ?_⟩
            replace hs := (hB.ktv hst hv4).sqt hs
            replace hg := (hB.ktv hst hv4).sqt hg
            replace r_x1 := r_x1.on (hB.ktv hst hv4)
            replace r_y1 := r_y1.on (hB.ktv hst hv4)
            replace S := S.trans hv4
            replace hB := hB4
            replace hst := hst4
            refine ⟨_, rfl, a, _, _, _, rfl, rfl, hs, at1, _, rfl, _, rfl, g, _, rfl, hg, (fun z => absurd (show HT.sIx 2 2 (some 1) = 2 from z.2) (by decide)), fun p1 h_p1 => ?_⟩
            rw [show cutV [x1, y1] none (some 1) = [x1] from rfl]
            have s_p1 : Sm H4 (upd H4 p1 (.tup [x1])) := Sm.new h_p1
            have q_p1 : SqT K (upd H4 p1 (.tup [x1])) p1 [x1] := .inl (Rd.of upd_same)
            replace hB := hB.keep fun a o e _ => s_p1 a o e
            replace hst := hst.sm s_p1
            replace hs := (KT.same s_p1).sqt hs
            replace hg := (KT.same s_p1).sqt hg
            replace r_x1 := r_x1.on (KT.same s_p1)
            replace r_y1 := r_y1.on (KT.same s_p1)
            replace rw := rw.on (KT.same s_p1)
            replace S := S.sm s_p1
            clear h_p1
            clear s_p1
            generalize (upd H4 p1 (.tup [x1])) = Hq28 at hB hst hs hg r_x1 r_y1 rw q_p1 S ⊢
            refine ⟨_, rfl, (show 1 ≤ sizeLine by decide), fun p2 h_p2 => ?_⟩
            have s_p2 : Sm Hq28 (upd Hq28 p2 (.tup [r])) := Sm.new h_p2
            have q_p2 : SqT K (upd Hq28 p2 (.tup [r])) p2 [r] := .inl (Rd.of upd_same)
            replace hB := hB.keep fun a o e _ => s_p2 a o e
            replace hst := hst.sm s_p2
            replace hs := (KT.same s_p2).sqt hs
            replace hg := (KT.same s_p2).sqt hg
            replace r_x1 := r_x1.on (KT.same s_p2)
            replace r_y1 := r_y1.on (KT.same s_p2)
            replace rw := rw.on (KT.same s_p2)
            replace q_p1 := (KT.same s_p2).sqt q_p1
            replace S := S.sm s_p2
            clear h_p2
            clear s_p2
            generalize (upd Hq28 p2 (.tup [r])) = Hq29 at hB hst hs hg r_x1 r_y1 rw q_p1 q_p2 S ⊢
            refine ⟨p1, p2, _, _, rfl, rfl, q_p1, q_p2, (small_le (show 1 + 1 ≤ 100000 by decide)), (fun z => nomatch z), (fun _ z => nomatch z), fun _ _ p4 h_p4 => ?_⟩
            rw [show [x1] ++ [r] = [x1, r] from rfl]
            have s_p4 : Sm Hq29 (upd Hq29 p4 (.tup [x1, r])) := Sm.new h_p4
            have q_p4 : SqT K (upd Hq29 p4 (.tup [x1, r])) p4 [x1, r] := .inl (Rd.of upd_same)
            replace hB := hB.keep fun a o e _ => s_p4 a o e
            replace hst := hst.sm s_p4
            replace hs := (KT.same s_p4).sqt hs
            replace hg := (KT.same s_p4).sqt hg
            replace r_x1 := r_x1.on (KT.same s_p4)
            replace r_y1 := r_y1.on (KT.same s_p4)
            replace rw := rw.on (KT.same s_p4)
            replace q_p1 := (KT.same s_p4).sqt q_p1
            replace q_p2 := (KT.same s_p4).sqt q_p2
            replace S := S.sm s_p4
            clear h_p4
            clear s_p4
            generalize (upd Hq29 p4 (.tup [x1, r])) = Hq30 at hB hst hs hg r_x1 r_y1 rw q_p1 q_p2 q_p4 S ⊢
            refine ⟨_, rfl, a, _, _, _, rfl, rfl, hs, at1, _, rfl, _, _, rfl, rfl, _, rfl, g, _, rfl, hg, (fun z => absurd (show HT.sIx 2 0 (some (1 + 1)) = 0 from z.1) (by decide)), fun p3 h_p3 => ?_⟩
            rw [show cutV [x1, y1] (some (1 + 1)) none = [] from rfl]
            have s_p3 : Sm Hq30 (upd Hq30 p3 (.tup [])) := Sm.new h_p3
            have q_p3 : SqT K (upd Hq30 p3 (.tup [])) p3 [] := .inl (Rd.of upd_same)
            replace hB := hB.keep fun a o e _ => s_p3 a o e
            replace hst := hst.sm s_p3
            replace hs := (KT.same s_p3).sqt hs
            replace hg := (KT.same s_p3).sqt hg
            replace r_x1 := r_x1.on (KT.same s_p3)
            replace r_y1 := r_y1.on (KT.same s_p3)
            replace rw := rw.on (KT.same s_p3)
            replace q_p1 := (KT.same s_p3).sqt q_p1
            replace q_p2 := (KT.same s_p3).sqt q_p2
            replace q_p4 := (KT.same s_p3).sqt q_p4
            replace S := S.sm s_p3
            clear h_p3
            clear s_p3
            generalize (upd Hq30 p3 (.tup [])) = Hq31 at hB hst hs hg r_x1 r_y1 rw q_p1 q_p2 q_p4 q_p3 S ⊢
            refine ⟨p4, p3, _, _, rfl, rfl, q_p4, q_p3, (small_le (show 2 + 0 ≤ 100000 by decide)), (fun z => nomatch z), (fun _ _ => ?_), (fun _ z => absurd rfl z)⟩
            refine ⟨(show 2 ≤ sizeLine by decide), fun t h_t => ?_⟩
            have s_t : Sm Hq31 (upd Hq31 t (.tup [.str "tuple", .ref p4])) := Sm.new h_t
            have r_t : Rp K (upd Hq31 t (.tup [.str "tuple", .ref p4])) (.ref t) (.tuple _) := Rp.mk upd_same (RpAll.on (.cons sok (.cons (.tup (ds := [x.d, w.d]) q_p4 (.cons r_x1 (.cons rw .nil))) .nil)) (KT.upd_new h_t))
            replace hB := hB.keep fun a o e _ => s_t a o e
            replace hst := hst.sm s_t
            replace hs := (KT.same s_t).sqt hs
            replace hg := (KT.same s_t).sqt hg
            replace r_x1 := r_x1.on (KT.same s_t)
            replace r_y1 := r_y1.on (KT.same s_t)
            replace rw := rw.on (KT.same s_t)
            replace q_p1 := (KT.same s_t).sqt q_p1
            replace q_p2 := (KT.same s_t).sqt q_p2
            replace q_p4 := (KT.same s_t).sqt q_p4
            replace q_p3 := (KT.same s_t).sqt q_p3
            replace S := S.sm s_t
            clear h_t
            clear s_t
            generalize (upd Hq31 t (.tup [.str "tuple", .ref p4])) = Hq32 at hB hst hs hg r_x1 r_y1 rw q_p1 q_p2 q_p4 q_p3 r_t S ⊢
            exact k _ _ (.tup [x, w]) st4 S hB hst (by simpa [Vl.d, Vl.ds] using r_t) (.tup _ _ [x, y] 1 _ _ rfl sp) (by simp [Vl.oka, Vl.okas, ok, h1.oka])
        rw [decide_eq_false h0]
        refine iteF (A := _) ?_
        refine ⟨_, rfl, a, _, _, _, rfl, rfl, hs, at0, rfl, _, rfl, iteN (by decide +kernel) (iteF (A := _) ?_)⟩
        refine ⟨_, rfl, a, _, _, _, rfl, rfl, hs, at0, rfl, _, rfl, iteN (by decide +kernel) ?_⟩
        refine ⟨_, rfl, a, _, _, _, rfl, rfl, hs, at0, rfl, _, rfl, iteN (by decide +kernel) (iteF (A := _) ?_)⟩
        refine ⟨_, rfl, a, _, _, _, rfl, rfl, hs, at0, rfl, _, rfl, iteN (by decide +kernel) ?_⟩
        refine ⟨_, rfl, a, _, _, _, rfl, rfl, hs, at0, rfl, _, rfl, iteN (by decide +kernel) ⟨_, rfl, a, _, _, _, rfl, rfl, hs, at0, rfl, _, rfl, iteN (by decide +kernel) ?_⟩⟩
        refine ⟨_, rfl, a, _, _, _, rfl, rfl, hs, at0, rfl, _, rfl, iteY (by decide +kernel) ⟨_, rfl, a, _, _, _, rfl, rfl, hs, at1, g, _, rfl, .inr hg, _, _, rfl, rfl, _, rfl, iteT (B := _) ?_⟩⟩
        refine ⟨(show 2 ≤ sizeLine by decide), fun e h_e => ?_⟩
        have s_e : Sm H2 (upd H2 e (.tup [.str "int", .int 0])) := Sm.new h_e
        have r_e : Rp K (upd H2 e (.tup [.str "int", .int 0])) (.ref e) (.tuple _) := Rp.mk upd_same (RpAll.on (.cons sok (.cons (.int _) .nil)) (KT.upd_new h_e))
        replace hB := hB.keep fun a o e _ => s_e a o e
        replace hst := hst.sm s_e
        replace hs := (KT.same s_e).sqt hs
        replace hg := (KT.same s_e).sqt hg
        replace r_x1 := r_x1.on (KT.same s_e)
        replace r_y1 := r_y1.on (KT.same s_e)
        replace S := S.sm s_e
        clear h_e
        clear s_e
        generalize (upd H2 e (.tup [.str "int", .int 0])) = Hq33 at hB hst hs hg r_x1 r_y1 r_e S ⊢
        refine ⟨_, rfl, a, _, _, _, rfl, rfl, hs, at1, ?_⟩
        refine ⟨(show 2 ≤ sizeLine by decide), fun i0 h_i0 => ?_⟩
        have s_i0 : Sm Hq33 (upd Hq33 i0 (.tup [.str "int", .int 0])) := Sm.new h_i0
        have r_i0 : Rp K (upd Hq33 i0 (.tup [.str "int", .int 0])) (.ref i0) (.tuple _) := Rp.mk upd_same (RpAll.on (.cons sok (.cons (.int _) .nil)) (KT.upd_new h_i0))
        replace hB := hB.keep fun a o e _ => s_i0 a o e
        replace hst := hst.sm s_i0
        replace hs := (KT.same s_i0).sqt hs
        replace hg := (KT.same s_i0).sqt hg
        replace r_x1 := r_x1.on (KT.same s_i0)
        replace r_y1 := r_y1.on (KT.same s_i0)
        replace r_e := r_e.on (KT.same s_i0)
        replace S := S.sm s_i0
        clear h_i0
        clear s_i0
        generalize (upd Hq33 i0 (.tup [.str "int", .int 0])) = Hq34 at hB hst hs hg r_x1 r_y1 r_e r_i0 S ⊢
        refine ⟨(show 1 ≤ sizeLine by decide), fun p1 h_p1 => ?_⟩
        have s_p1 : Sm Hq34 (upd Hq34 p1 (.tup [.ref i0])) := Sm.new h_p1
        have q_p1 : SqT K (upd Hq34 p1 (.tup [.ref i0])) p1 [.ref i0] := .inl (Rd.of upd_same)
        replace hB := hB.keep fun a o e _ => s_p1 a o e
        replace hst := hst.sm s_p1
        replace hs := (KT.same s_p1).sqt hs
        replace hg := (KT.same s_p1).sqt hg
        replace r_x1 := r_x1.on (KT.same s_p1)
        replace r_y1 := r_y1.on (KT.same s_p1)
        replace r_e := r_e.on (KT.same s_p1)
        replace r_i0 := r_i0.on (KT.same s_p1)
        replace S := S.sm s_p1
        clear h_p1
        clear s_p1
        generalize (upd Hq34 p1 (.tup [.ref i0])) = Hq35 at hB hst hs hg r_x1 r_y1 r_e r_i0 q_p1 S ⊢
        refine ⟨g, p1, _, _, rfl, rfl, hg, q_p1, (fun z => nomatch z), (small_le (show 2 + 1 ≤ 100000 by decide)), (fun z => nomatch z), fun _ z h_z => ?_⟩
        rw [show [x1, y1] ++ [V.ref i0] = [x1, y1, V.ref i0] from rfl]
        have s_z : Sm Hq35 (upd Hq35 z (.tup [x1, y1, .ref i0])) := Sm.new h_z
        have q_z : SqT K (upd Hq35 z (.tup [x1, y1, .ref i0])) z [x1, y1, .ref i0] := .inl (Rd.of upd_same)
        replace hB := hB.keep fun a o e _ => s_z a o e
        replace hst := hst.sm s_z
        replace hs := (KT.same s_z).sqt hs
        replace hg := (KT.same s_z).sqt hg
        replace r_x1 := r_x1.on (KT.same s_z)
        replace r_y1 := r_y1.on (KT.same s_z)
        replace r_e := r_e.on (KT.same s_z)
        replace r_i0 := r_i0.on (KT.same s_z)
        replace q_p1 := (KT.same s_z).sqt q_p1
        replace S := S.sm s_z
        clear h_z
        clear s_z
        generalize (upd Hq35 z (.tup [x1, y1, .ref i0])) = Hq36 at hB hst hs hg r_x1 r_y1 r_e r_i0 q_p1 q_z S ⊢
        refine ⟨(show 2 ≤ sizeLine by decide), fun t h_t => ?_⟩
        have s_t : Sm Hq36 (upd Hq36 t (.tup [.str "tuple", .ref z])) := Sm.new h_t
        have r_t : Rp K (upd Hq36 t (.tup [.str "tuple", .ref z])) (.ref t) (.tuple _) := Rp.mk upd_same (RpAll.on (.cons sok (.cons (.tup q_z (.cons r_x1 (.cons r_y1 (.cons r_i0 .nil)))) .nil)) (KT.upd_new h_t))
        replace hB := hB.keep fun a o e _ => s_t a o e
        replace hst := hst.sm s_t
        replace hs := (KT.same s_t).sqt hs
        replace hg := (KT.same s_t).sqt hg
        replace r_x1 := r_x1.on (KT.same s_t)
        replace r_y1 := r_y1.on (KT.same s_t)
        replace r_e := r_e.on (KT.same s_t)
        replace r_i0 := r_i0.on (KT.same s_t)
        replace q_p1 := (KT.same s_t).sqt q_p1
        replace q_z := (KT.same s_t).sqt q_z
        replace S := S.sm s_t
        clear h_t
        clear s_t
        generalize (upd Hq36 t (.tup [.str "tuple", .ref z])) = Hq37 at hB hst hs hg r_x1 r_y1 r_e r_i0 q_p1 q_z r_t S ⊢
        refine ⟨Nat.zero_le _, fun e0 h_e0 => ?_⟩
        have s_e0 : Sm Hq37 (upd Hq37 e0 (.tup [])) := Sm.new h_e0
        have r_e0 : Rp K (upd Hq37 e0 (.tup [])) (.ref e0) (.tuple _) := Rp.mk upd_same (RpAll.on (.nil) (KT.upd_new h_e0))
        replace hB := hB.keep fun a o e _ => s_e0 a o e
        replace hst := hst.sm s_e0
        replace hs := (KT.same s_e0).sqt hs
        replace hg := (KT.same s_e0).sqt hg
        replace r_x1 := r_x1.on (KT.same s_e0)
        replace r_y1 := r_y1.on (KT.same s_e0)
        replace r_e := r_e.on (KT.same s_e0)
        replace r_i0 := r_i0.on (KT.same s_e0)
        replace q_p1 := (KT.same s_e0).sqt q_p1
        replace q_z := (KT.same s_e0).sqt q_z
        replace r_t := r_t.on (KT.same s_e0)
        replace S := S.sm s_e0
        clear h_e0
        clear s_e0
        generalize (upd Hq37 e0 (.tup [])) = Hq38 at hB hst hs hg r_x1 r_y1 r_e r_i0 q_p1 q_z r_t r_e0 S ⊢
        refine ⟨(show 2 ≤ sizeLine by decide), fun u h_u => ?_⟩
        have s_u : Sm Hq38 (upd Hq38 u (.tup [.str "tuple", .ref e0])) := Sm.new h_u
        have r_u : Rp K (upd Hq38 u (.tup [.str "tuple", .ref e0])) (.ref u) (.tuple _) := Rp.mk upd_same (RpAll.on (.cons sok (.cons r_e0 .nil)) (KT.upd_new h_u))
        replace hB := hB.keep fun a o e _ => s_u a o e
        replace hst := hst.sm s_u
        replace hs := (KT.same s_u).sqt hs
        replace hg := (KT.same s_u).sqt hg
        replace r_x1 := r_x1.on (KT.same s_u)
        replace r_y1 := r_y1.on (KT.same s_u)
        replace r_e := r_e.on (KT.same s_u)
        replace r_i0 := r_i0.on (KT.same s_u)
        replace q_p1 := (KT.same s_u).sqt q_p1
        replace q_z := (KT.same s_u).sqt q_z
        replace r_t := r_t.on (KT.same s_u)
        replace r_e0 := r_e0.on (KT.same s_u)
        replace S := S.sm s_u
        clear h_u
        clear s_u
        generalize (upd Hq38 u (.tup [.str "tuple", .ref e0])) = Hq39 at hB hst hs hg r_x1 r_y1 r_e r_i0 q_p1 q_z r_t r_e0 r_u S ⊢
        refine ⟨(show 3 ≤ sizeLine by decide), fun L h_L => ?_⟩
        have s_L : Sm Hq39 (upd Hq39 L (.lst [.ref e, .ref t, .ref u])) := Sm.new h_L
        have o_L : (upd Hq39 L (.lst [.ref e, .ref t, .ref u])) L = some (.lst [.ref e, .ref t, .ref u]) := upd_same
        replace hB := hB.keep fun a o e _ => s_L a o e
        replace hst := hst.sm s_L
        replace hs := (KT.same s_L).sqt hs
        replace hg := (KT.same s_L).sqt hg
        replace r_x1 := r_x1.on (KT.same s_L)
        replace r_y1 := r_y1.on (KT.same s_L)
        replace r_e := r_e.on (KT.same s_L)
        replace r_i0 := r_i0.on (KT.same s_L)
        replace q_p1 := (KT.same s_L).sqt q_p1
        replace q_z := (KT.same s_L).sqt q_z
        replace r_t := r_t.on (KT.same s_L)
        replace r_e0 := r_e0.on (KT.same s_L)
        replace r_u := r_u.on (KT.same s_L)
        replace S := S.sm s_L
        clear h_L
        clear s_L
        generalize (upd Hq39 L (.lst [.ref e, .ref t, .ref u])) = Hq40 at hB hst hs hg r_x1 r_y1 r_e r_i0 q_p1 q_z r_t r_e0 r_u o_L S ⊢
        refine ⟨_, rfl, b, c, 3, rfl, by decide, by decide, hB, fun r1 H1 r10 r11 hx1 hB1 => ?_⟩
        replace hst := hst.bx hB hx1
        replace hs := (hB.kt hx1).sqt hs
        replace hg := (hB.kt hx1).sqt hg
        replace r_x1 := r_x1.on (hB.kt hx1)
        replace r_y1 := r_y1.on (hB.kt hx1)
        replace r_e := r_e.on (hB.kt hx1)
        replace r_i0 := r_i0.on (hB.kt hx1)
        replace q_p1 := (hB.kt hx1).sqt q_p1
        replace q_z := (hB.kt hx1).sqt q_z
        replace r_t := r_t.on (hB.kt hx1)
        replace r_e0 := r_e0.on (hB.kt hx1)
        replace r_u := r_u.on (hB.kt hx1)
        replace o_L := (hx1 _ (hB.off2 o_L).1 (hB.off2 o_L).2).trans o_L
        replace S := S.bx hx1
        replace hB := hB1
        have xok := h1.oka
        have yok := h2.oka
        have h3 : r1 = 0 ∨ r1 = 1 ∨ r1 = 2 := by omega
        rcases h3 with rfl | rfl | rfl
        · exact ⟨L, _, _, _, rfl, rfl, SqL.of o_L, rfl, k _ _ (.int 0) st S hB hst (by simpa [Vl.d, Vl.ds] using r_e) (.kind _ _ _ (by simp only [Vl.tag]; decide +kernel) (by simp only [Vl.tag]; decide +kernel) (by simp only [Vl.tag]; decide +kernel)) (by simp [Vl.oka, Vl.okas])⟩
        · exact ⟨L, _, _, _, rfl, rfl, SqL.of o_L, rfl, k _ _ (.tup [x, y, .int 0]) st S hB hst (by simpa [Vl.d, Vl.ds] using r_t) (.many _ _ _ (by simp)) (by simp [Vl.oka, Vl.okas, xok, yok])⟩
        · exact ⟨L, _, _, _, rfl, rfl, SqL.of o_L, rfl, k _ _ (.tup []) st S hB hst (by simpa [Vl.d, Vl.ds] using r_u) (.many _ _ _ (by simp)) (by simp [Vl.oka, Vl.okas])⟩
      | ref _ _ i p u hi e h1 =>
        obtain ⟨a, rfl, hs⟩ := inv_ref hx
        refine ⟨_, rfl, a, _, _, _, rfl, rfl, hs, at0, rfl, _, rfl, iteN (by decide +kernel) (iteF (A := _) ?_)⟩
        refine ⟨_, rfl, a, _, _, _, rfl, rfl, hs, at0, rfl, _, rfl, iteN (by decide +kernel) (iteF (A := _) ?_)⟩
        refine ⟨_, rfl, a, _, _, _, rfl, rfl, hs, at0, rfl, _, rfl, iteN (by decide +kernel) ?_⟩
        refine ⟨_, rfl, a, _, _, _, rfl, rfl, hs, at0, rfl, _, rfl, iteY (by decide +kernel) ?_⟩
        refine ⟨_, rfl, b, c, 2, rfl, by decide, by decide, hB, fun r2 H2 r20 r21 hx2 hB2 => ?_⟩
        replace hst := hst.bx hB hx2
        replace r_x := r_x.on (hB.kt hx2)
        replace hs := (hB.kt hx2).sqt hs
        replace S := S.bx hx2
        replace hB := hB2
        refine ⟨rfl, _, rfl, ?_⟩
        rw [dec_i]
        by_cases h0 : r2 = 0
        · rw [decide_eq_true h0]
          refine iteT (B := _) ?_
          obtain ⟨vs0, es0, rs0⟩ := hst.at_
          obtain ⟨uv, eu, ru⟩ := rs0.get (show (Vl.ds st)[i]? = some u.d by rw [vds_map, List.getElem?_map, e]; rfl)
          refine ⟨_, rfl, _, rfl, _, rfl, a, _, _, _, rfl, rfl, hs, at1, s, _, _, _, rfl, rfl, SqL.of es0, atI_nat eu, _, rfl, b, c, s, uv, i, p, st, u, rfl, h1, hB, hst, ru, fun r H3 w st3 hv3 hB3 hst3 rw sp ok => ?_⟩
          have rx3 := r_x.on (hB.ktv hst hv3)
          have hs3 := (hB.ktv hst hv3).sqt hs
          have hl3 := sp.len
          have hil : i < st.length := (List.getElem?_eq_some_iff.mp e).1
          obtain ⟨nb, nc, ⟨vs3, es3, rs3⟩, ok3⟩ := hst3
          have hvl : vs3.length = st3.length := by rw [rs3.length, vds_len]
          have kt : KT H3 (upd H3 s (.lst (vs3.set i r))) := KT.upd_lst (NT.lst es3)
          refine ⟨_, rfl, _, rfl, a, _, _, _, rfl, rfl, hs3, at1, s, _, _, i, rfl, rfl, es3, ?_, ?_⟩
          · unfold ixN
            rw [if_pos (by omega), if_pos (by omega)]
            simp
          refine ⟨_, rfl, k _ _ (.ref (i : Int)) (st3.set i w) ((S.trans hv3).trans fun a' o n1 n2 n3 e1 => by rw [upd_ne n3]; exact e1) (hB3.upd nb nc) ⟨nb, nc, ⟨vs3.set i r, upd_same, ?_⟩, ?_⟩ (rx3.on kt) (.ref _ _ _ _ _ e sp) (by simp [Vl.oka])⟩
          · rw [vds_map, List.map_set, ← vds_map]
            exact (rs3.on kt).set i (rw.on kt)
          · exact okas_set ok3 ok
        rw [decide_eq_false h0]
        refine iteF (A := _) ?_
        refine ⟨_, rfl, a, _, _, _, rfl, rfl, hs, at0, rfl, _, rfl, iteY (by decide +kernel) ?_⟩
        refine ⟨Nat.zero_le _, fun e0 h_e0 => ?_⟩
        have s_e0 : Sm H2 (upd H2 e0 (.tup [])) := Sm.new h_e0
        have r_e0 : Rp K (upd H2 e0 (.tup [])) (.ref e0) (.tuple _) := Rp.mk upd_same (RpAll.on (.nil) (KT.upd_new h_e0))
        replace hB := hB.keep fun a o e _ => s_e0 a o e
        replace hst := hst.sm s_e0
        replace r_x := r_x.on (KT.same s_e0)
        replace hs := (KT.same s_e0).sqt hs
        replace S := S.sm s_e0
        clear h_e0
        clear s_e0
        generalize (upd H2 e0 (.tup [])) = Hq41 at hB hst r_x hs r_e0 S ⊢
        refine ⟨(show 2 ≤ sizeLine by decide), fun t h_t => ?_⟩
        have s_t : Sm Hq41 (upd Hq41 t (.tup [.str "tuple", .ref e0])) := Sm.new h_t
        have r_t : Rp K (upd Hq41 t (.tup [.str "tuple", .ref e0])) (.ref t) (.tuple _) := Rp.mk upd_same (RpAll.on (.cons sok (.cons r_e0 .nil)) (KT.upd_new h_t))
        replace hB := hB.keep fun a o e _ => s_t a o e
        replace hst := hst.sm s_t
        replace r_x := r_x.on (KT.same s_t)
        replace hs := (KT.same s_t).sqt hs
        replace r_e0 := r_e0.on (KT.same s_t)
        replace S := S.sm s_t
        clear h_t
        clear s_t
        generalize (upd Hq41 t (.tup [.str "tuple", .ref e0])) = Hq42 at hB hst r_x hs r_e0 r_t S ⊢
        refine ⟨(show 4 ≤ sizeLine by decide), fun u0 h_u0 => ?_⟩
        have s_u0 : Sm Hq42 (upd Hq42 u0 (.tup [.str "con", .int 0, .str "Nil", .non])) := Sm.new h_u0
        have r_u0 : Rp K (upd Hq42 u0 (.tup [.str "con", .int 0, .str "Nil", .non])) (.ref u0) (.tuple _) := Rp.mk upd_same (RpAll.on (.cons sok (.cons (.int _) (.cons sok (.cons .non .nil)))) (KT.upd_new h_u0))
        replace hB := hB.keep fun a o e _ => s_u0 a o e
        replace hst := hst.sm s_u0
        replace r_x := r_x.on (KT.same s_u0)
        replace hs := (KT.same s_u0).sqt hs
        replace r_e0 := r_e0.on (KT.same s_u0)
        replace r_t := r_t.on (KT.same s_u0)
        replace S := S.sm s_u0
        clear h_u0
        clear s_u0
        generalize (upd Hq42 u0 (.tup [.str "con", .int 0, .str "Nil", .non])) = Hq43 at hB hst r_x hs r_e0 r_t r_u0 S ⊢
        refine ⟨_, rfl, a, _, _, _, rfl, rfl, hs, at1, (show 2 ≤ sizeLine by decide), fun y h_y => ?_⟩
        have s_y : Sm Hq43 (upd Hq43 y (.tup [.str "int", .int (i : Int)])) := Sm.new h_y
        have r_y : Rp K (upd Hq43 y (.tup [.str "int", .int (i : Int)])) (.ref y) (.tuple _) := Rp.mk upd_same (RpAll.on (.cons sok (.cons (.int _) .nil)) (KT.upd_new h_y))
        replace hB := hB.keep fun a o e _ => s_y a o e
        replace hst := hst.sm s_y
        replace r_x := r_x.on (KT.same s_y)
        replace hs := (KT.same s_y).sqt hs
        replace r_e0 := r_e0.on (KT.same s_y)
        replace r_t := r_t.on (KT.same s_y)
        replace r_u0 := r_u0.on (KT.same s_y)
        replace S := S.sm s_y
        clear h_y
        clear s_y
        generalize (upd Hq43 y (.tup [.str "int", .int (i : Int)])) = Hq44 at hB hst r_x hs r_e0 r_t r_u0 r_y S ⊢
        refine ⟨(show 3 ≤ sizeLine by decide), fun L h_L => ?_⟩
        have s_L : Sm Hq44 (upd Hq44 L (.lst [.ref t, .ref u0, .ref y])) := Sm.new h_L
        have o_L : (upd Hq44 L (.lst [.ref t, .ref u0, .ref y])) L = some (.lst [.ref t, .ref u0, .ref y]) := upd_same
        replace hB := hB.keep fun a o e _ => s_L a o e
        replace hst := hst.sm s_L
        replace r_x := r_x.on (KT.same s_L)
        replace hs := (KT.same s_L).sqt hs
        replace r_e0 := r_e0.on (KT.same s_L)
        replace r_t := r_t.on (KT.same s_L)
        replace r_u0 := r_u0.on (KT.same s_L)
        replace r_y := r_y.on (KT.same s_L)
        replace S := S.sm s_L
        clear h_L
        clear s_L
        generalize (upd Hq44 L (.lst [.ref t, .ref u0, .ref y])) = Hq45 at hB hst r_x hs r_e0 r_t r_u0 r_y o_L S ⊢
        refine ⟨_, rfl, b, c, 3, rfl, by decide, by decide, hB, fun r1 H1 r10 r11 hx1 hB1 => ?_⟩
        replace hst := hst.bx hB hx1
        replace r_x := r_x.on (hB.kt hx1)
        replace hs := (hB.kt hx1).sqt hs
        replace r_e0 := r_e0.on (hB.kt hx1)
        replace r_t := r_t.on (hB.kt hx1)
        replace r_u0 := r_u0.on (hB.kt hx1)
        replace r_y := r_y.on (hB.kt hx1)
        replace o_L := (hx1 _ (hB.off2 o_L).1 (hB.off2 o_L).2).trans o_L
        replace S := S.bx hx1
        replace hB := hB1
        have h3 : r1 = 0 ∨ r1 = 1 ∨ r1 = 2 := by omega
        rcases h3 with rfl | rfl | rfl
        · exact ⟨L, _, _, _, rfl, rfl, SqL.of o_L, rfl, k _ _ (.tup []) st S hB hst (by simpa [Vl.d, Vl.ds] using r_t) (.kind _ _ _ (by simp only [Vl.tag]; decide +kernel) (by simp only [Vl.tag]; decide +kernel) (by simp only [Vl.tag]; decide +kernel)) (by simp [Vl.oka, Vl.okas])⟩
        · exact ⟨L, _, _, _, rfl, rfl, SqL.of o_L, rfl, k _ _ (.con0 0 "Nil") st S hB hst (by simpa [Vl.d, Vl.ds] using r_u0) (.kind _ _ _ (by simp only [Vl.tag]; decide +kernel) (by simp only [Vl.tag]; decide +kernel) (by simp only [Vl.tag]; decide +kernel)) (by simp [Vl.oka])⟩
        · exact ⟨L, _, _, _, rfl, rfl, SqL.of o_L, rfl, k _ _ (.int (i : Int)) st S hB hst (by simpa [Vl.d, Vl.ds] using r_y) (.kind _ _ _ (by simp only [Vl.tag]; decide +kernel) (by simp only [Vl.tag]; decide +kernel) (by simp only [Vl.tag]; decide +kernel)) (by simp [Vl.oka])⟩
      | con0 _ _ t i as row nn e1 e2 =>
        have hns := name_small e1
        have hlen : row.name.length + ("s" : Str).length ≤ sizeLine := by
          have h1 : ("s" : Str).length = 1 := by decide +kernel
          exact small_le (by omega)
        obtain ⟨a, rfl, hs⟩ := inv_con0 hx
        have nok : PyData.strOk row.name = true := by
          simp only [Vl.d] at hx
          obtain ⟨_, xs, _, _, r0⟩ := hx.tup_inv
          obtain ⟨v1, w1, rfl, q1, r1⟩ := r0.cons_inv
          obtain ⟨v2, w2, rfl, q2, r2⟩ := r1.cons_inv
          obtain ⟨v3, w3, rfl, q3, r3⟩ := r2.cons_inv
          exact Rp.strok q3
        refine ⟨_, rfl, a, _, _, _, rfl, rfl, hs, at0, rfl, _, rfl, iteN (by decide +kernel) (iteF (A := _) ?_)⟩
        refine ⟨_, rfl, a, _, _, _, rfl, rfl, hs, at0, rfl, _, rfl, iteY (by decide +kernel) ⟨_, rfl, a, _, _, _, rfl, rfl, hs, at3, rfl, _, rfl, iteF (A := _) (iteF (A := _) ?_)⟩⟩
        refine ⟨_, rfl, a, _, _, _, rfl, rfl, hs, at0, rfl, _, rfl, iteY (by decide +kernel) ?_⟩
        refine ⟨_, rfl, a, _, _, _, rfl, rfl, hs, at1, _, rfl, a, _, _, _, rfl, rfl, hs, at2, _, _, rfl, rfl, hlen, _, rfl, a, _, _, _, rfl, rfl, hs, at3, (show 4 ≤ sizeLine by decide), fun t1 h_t1 => ?_⟩
        have s_t1 : Sm H (upd H t1 (.tup [.str "con", .int i, .str (row.name ++ ("s" : Str)), .non])) := Sm.new h_t1
        have r_t1 : Rp K (upd H t1 (.tup [.str "con", .int i, .str (row.name ++ ("s" : Str)), .non])) (.ref t1) (.tuple _) := Rp.mk upd_same (RpAll.on (.cons sok (.cons (.int _) (.cons (.str _ (app_ok nok)) (.cons .non .nil)))) (KT.upd_new h_t1))
        replace hB := hB.keep fun a o e _ => s_t1 a o e
        replace hst := hst.sm s_t1
        replace hs := (KT.same s_t1).sqt hs
        replace S := S.sm s_t1
        clear h_t1
        clear s_t1
        generalize (upd H t1 (.tup [.str "con", .int i, .str (row.name ++ ("s" : Str)), .non])) = Hq46 at hB hst hs r_t1 S ⊢
        refine ⟨(show 2 ≤ sizeLine by decide), fun t2 h_t2 => ?_⟩
        have s_t2 : Sm Hq46 (upd Hq46 t2 (.tup [.str "int", .int 3])) := Sm.new h_t2
        have r_t2 : Rp K (upd Hq46 t2 (.tup [.str "int", .int 3])) (.ref t2) (.tuple _) := Rp.mk upd_same (RpAll.on (.cons sok (.cons (.int _) .nil)) (KT.upd_new h_t2))
        replace hB := hB.keep fun a o e _ => s_t2 a o e
        replace hst := hst.sm s_t2
        replace hs := (KT.same s_t2).sqt hs
        replace r_t1 := r_t1.on (KT.same s_t2)
        replace S := S.sm s_t2
        clear h_t2
        clear s_t2
        generalize (upd Hq46 t2 (.tup [.str "int", .int 3])) = Hq47 at hB hst hs r_t1 r_t2 S ⊢
        refine ⟨_, rfl, a, _, _, _, rfl, rfl, hs, at1, _, rfl, a, _, _, _, rfl, rfl, hs, at2, (show 2 ≤ sizeLine by decide), fun x3 h_x3 => ?_⟩
        have s_x3 : Sm Hq47 (upd Hq47 x3 (.tup [.str "int", .int 0])) := Sm.new h_x3
        have r_x3 : Rp K (upd Hq47 x3 (.tup [.str "int", .int 0])) (.ref x3) (.tuple _) := Rp.mk upd_same (RpAll.on (.cons sok (.cons (.int _) .nil)) (KT.upd_new h_x3))
        replace hB := hB.keep fun a o e _ => s_x3 a o e
        replace hst := hst.sm s_x3
        replace hs := (KT.same s_x3).sqt hs
        replace r_t1 := r_t1.on (KT.same s_x3)
        replace r_t2 := r_t2.on (KT.same s_x3)
        replace S := S.sm s_x3
        clear h_x3
        clear s_x3
        generalize (upd Hq47 x3 (.tup [.str "int", .int 0])) = Hq48 at hB hst hs r_t1 r_t2 r_x3 S ⊢
        refine ⟨(show 4 ≤ sizeLine by decide), fun t3 h_t3 => ?_⟩
        have s_t3 : Sm Hq48 (upd Hq48 t3 (.tup [.str "con", .int i, .str row.name, .ref x3])) := Sm.new h_t3
        have r_t3 : Rp K (upd Hq48 t3 (.tup [.str "con", .int i, .str row.name, .ref x3])) (.ref t3) (.tuple _) := Rp.mk upd_same (RpAll.on (.cons sok (.cons (.int _) (.cons (.str _ nok) (.cons r_x3 .nil)))) (KT.upd_new h_t3))
        replace hB := hB.keep fun a o e _ => s_t3 a o e
        replace hst := hst.sm s_t3
        replace hs := (KT.same s_t3).sqt hs
        replace r_t1 := r_t1.on (KT.same s_t3)
        replace r_t2 := r_t2.on (KT.same s_t3)
        replace r_x3 := r_x3.on (KT.same s_t3)
        replace S := S.sm s_t3
        clear h_t3
        clear s_t3
        generalize (upd Hq48 t3 (.tup [.str "con", .int i, .str row.name, .ref x3])) = Hq49 at hB hst hs r_t1 r_t2 r_x3 r_t3 S ⊢
        refine ⟨_, rfl, a, _, _, _, rfl, rfl, hs, at1, rfl, .inr ⟨_, rfl, ?_⟩⟩
        have ei : (if decide (V.int i = V.int 0) = true then (1 : Int) else 0) = (if i = 0 then 1 else 0) := by
          rw [dec_i]
          by_cases z : i = 0 <;> simp [z]
        rw [ei]
        refine ⟨_, rfl, a, _, _, _, rfl, rfl, hs, at2, _, rfl, a, _, _, _, rfl, rfl, hs, at3, (show 4 ≤ sizeLine by decide), fun t4 h_t4 => ?_⟩
        have s_t4 : Sm Hq49 (upd Hq49 t4 (.tup [.str "con", .int (if i = 0 then 1 else 0), .str row.name, .non])) := Sm.new h_t4
        have r_t4 : Rp K (upd Hq49 t4 (.tup [.str "con", .int (if i = 0 then 1 else 0), .str row.name, .non])) (.ref t4) (.tuple _) := Rp.mk upd_same (RpAll.on (.cons sok (.cons (.int _) (.cons (.str _ nok) (.cons .non .nil)))) (KT.upd_new h_t4))
        replace hB := hB.keep fun a o e _ => s_t4 a o e
        replace hst := hst.sm s_t4
        replace hs := (KT.same s_t4).sqt hs
        replace r_t1 := r_t1.on (KT.same s_t4)
        replace r_t2 := r_t2.on (KT.same s_t4)
        replace r_x3 := r_x3.on (KT.same s_t4)
        replace r_t3 := r_t3.on (KT.same s_t4)
        replace S := S.sm s_t4
        clear h_t4
        clear s_t4
        generalize (upd Hq49 t4 (.tup [.str "con", .int (if i = 0 then 1 else 0), .str row.name, .non])) = Hq50 at hB hst hs r_t1 r_t2 r_x3 r_t3 r_t4 S ⊢
        refine ⟨(show 4 ≤ sizeLine by decide), fun L h_L => ?_⟩
        have s_L : Sm Hq50 (upd Hq50 L (.lst [.ref t1, .ref t2, .ref t3, .ref t4])) := Sm.new h_L
        have o_L : (upd Hq50 L (.lst [.ref t1, .ref t2, .ref t3, .ref t4])) L = some (.lst [.ref t1, .ref t2, .ref t3, .ref t4]) := upd_same
        replace hB := hB.keep fun a o e _ => s_L a o e
        replace hst := hst.sm s_L
        replace hs := (KT.same s_L).sqt hs
        replace r_t1 := r_t1.on (KT.same s_L)
        replace r_t2 := r_t2.on (KT.same s_L)
        replace r_x3 := r_x3.on (KT.same s_L)
        replace r_t3 := r_t3.on (KT.same s_L)
        replace r_t4 := r_t4.on (KT.same s_L)
        replace S := S.sm s_L
        clear h_L
        clear s_L
        generalize (upd Hq50 L (.lst [.ref t1, .ref t2, .ref t3, .ref t4])) = Hq51 at hB hst hs r_t1 r_t2 r_x3 r_t3 r_t4 o_L S ⊢
        refine ⟨_, rfl, a, _, _, _, rfl, rfl, hs, at3, rfl, _, rfl, iteF (A := _) ?_⟩
        refine ⟨_, rfl, _, rfl, b, c, 4, rfl, by decide, by decide, hB, fun r1 H1 r10 r11 hx1 hB1 => ?_⟩
        replace hst := hst.bx hB hx1
        replace hs := (hB.kt hx1).sqt hs
        replace r_t1 := r_t1.on (hB.kt hx1)
        replace r_t2 := r_t2.on (hB.kt hx1)
        replace r_x3 := r_x3.on (hB.kt hx1)
        replace r_t3 := r_t3.on (hB.kt hx1)
        replace r_t4 := r_t4.on (hB.kt hx1)
        replace o_L := (hx1 _ (hB.off2 o_L).1 (hB.off2 o_L).2).trans o_L
        replace S := S.bx hx1
        replace hB := hB1
        have h3 : r1 = 0 ∨ r1 = 1 ∨ r1 = 2 ∨ r1 = 3 := by omega
        rcases h3 with rfl | rfl | rfl | rfl
        · exact ⟨L, _, _, _, rfl, rfl, SqL.of o_L, rfl, k _ _ (.con0 i (row.name ++ ("s" : Str))) st S hB hst (by simpa [Vl.d] using r_t1) (.name0 _ _ _ _ (app_ne _)) (by simp [Vl.oka])⟩
        · exact ⟨L, _, _, _, rfl, rfl, SqL.of o_L, rfl, k _ _ (.int 3) st S hB hst (by simpa [Vl.d] using r_t2) (.kind _ _ _ (by simp only [Vl.tag]; decide +kernel) (by simp only [Vl.tag]; decide +kernel) (by simp only [Vl.tag]; decide +kernel)) (by simp [Vl.oka])⟩
        · exact ⟨L, _, _, _, rfl, rfl, SqL.of o_L, rfl, k _ _ (.con1 i row.name (.int 0)) st S hB hst (by simpa [Vl.d] using r_t3) (.arg0 _ _ _ _) (by simp [Vl.oka])⟩
        · exact ⟨L, _, _, _, rfl, rfl, SqL.of o_L, rfl, k _ _ (.con0 (if i = 0 then 1 else 0) row.name) st S hB hst (by simpa [Vl.d] using r_t4) (.idx0 _ _ _) (by simp [Vl.oka])⟩
      | con1 _ _ t i as row p y nn e1 e2 h1 =>
        have hns := name_small e1
        have hlen : row.name.length + ("s" : Str).length ≤ sizeLine := by
          have h1 : ("s" : Str).length = 1 := by decide +kernel
          exact small_le (by omega)
        have yok := h1.oka
        obtain ⟨a, yv, rfl, hs, r_y⟩ := inv_con1 hx
        have nok : PyData.strOk row.name = true := by
          simp only [Vl.d] at hx
          obtain ⟨_, xs, _, _, r0⟩ := hx.tup_inv
          obtain ⟨v1, w1, rfl, q1, r1⟩ := r0.cons_inv
          obtain ⟨v2, w2, rfl, q2, r2⟩ := r1.cons_inv
          obtain ⟨v3, w3, rfl, q3, r3⟩ := r2.cons_inv
          exact Rp.strok q3
        refine ⟨_, rfl, a, _, _, _, rfl, rfl, hs, at0, rfl, _, rfl, iteN (by decide +kernel) (iteF (A := _) ?_)⟩
        refine ⟨_, rfl, a, _, _, _, rfl, rfl, hs, at0, rfl, _, rfl, iteY (by decide +kernel) ⟨_, rfl, a, _, _, _, rfl, rfl, hs, at3, rfl, _, rfl, iteT (B := _) ?_⟩⟩
        refine ⟨_, rfl, b, c, 4, rfl, by decide, by decide, hB, fun r2 H2 r20 r21 hx2 hB2 => ?_⟩
        replace hst := hst.bx hB hx2
        replace hs := (hB.kt hx2).sqt hs
        replace r_y := r_y.on (hB.kt hx2)
        replace S := S.bx hx2
        replace hB := hB2
        refine ⟨_, _, rfl, rfl, _, rfl, ?_⟩
        by_cases h0 : 0 < r2
        · rw [decide_eq_true h0]
          refine iteT (B := _) ?_
          refine ⟨_, rfl, _, rfl, a, _, rfl, hs, (fun z => absurd (show HT.sIx 4 4 (some 3) = 4 from z.2) (by decide)), fun p1 h_p1 => ?_⟩
          rw [show cutV [V.str "con", V.int i, V.str row.name, V.ref yv] none (some 3) = [V.str "con", V.int i, V.str row.name] from rfl]
          have s_p1 : Sm H2 (upd H2 p1 (.tup [.str "con", .int i, .str row.name])) := Sm.new h_p1
          have q_p1 : SqT K (upd H2 p1 (.tup [.str "con", .int i, .str row.name])) p1 [.str "con", .int i, .str row.name] := .inl (Rd.of upd_same)
          replace hB := hB.keep fun a o e _ => s_p1 a o e
          replace hst := hst.sm s_p1
          replace hs := (KT.same s_p1).sqt hs
          replace r_y := r_y.on (KT.same s_p1)
          replace S := S.sm s_p1
          clear h_p1
          clear s_p1
          generalize (upd H2 p1 (.tup [.str "con", .int i, .str row.name])) = Hq52 at hB hst hs r_y q_p1 S ⊢
          refine ⟨_, rfl, _, rfl, a, _, _, _, rfl, rfl, hs, at3, _, rfl, b, c, s, .ref yv, _, _, st, y, rfl, h1, hB, hst, r_y, fun r H3 w st3 hv3 hB3 hst3 rw sp ok => ?_⟩
          replace hs := (hB.ktv hst hv3).sqt hs
          replace r_y := r_y.on (hB.ktv hst hv3)
          replace q_p1 := (hB.ktv hst hv3).sqt q_p1
          replace S := S.trans hv3
          replace hB := hB3
          replace hst := hst3
          obtain ⟨ow, _, rfl, _⟩ := inv_tag w rw
          refine ⟨(show 1 ≤ sizeLine by decide), fun p2 h_p2 => ?_⟩
          have s_p2 : Sm H3 (upd H3 p2 (.tup [.ref ow])) := Sm.new h_p2
          have q_p2 : SqT K (upd H3 p2 (.tup [.ref ow])) p2 [.ref ow] := .inl (Rd.of upd_same)
          replace hB := hB.keep fun a o e _ => s_p2 a o e
          replace hst := hst.sm s_p2
          replace hs := (KT.same s_p2).sqt hs
          replace r_y := r_y.on (KT.same s_p2)
          replace q_p1 := (KT.same s_p2).sqt q_p1
          replace rw := rw.on (KT.same s_p2)
          replace S := S.sm s_p2
          clear h_p2
          clear s_p2
          generalize (upd H3 p2 (.tup [.ref ow])) = Hq53 at hB hst hs r_y q_p1 rw q_p2 S ⊢
          refine ⟨p1, p2, _, _, rfl, rfl, q_p1, q_p2, (fun z => nomatch z), (small_le (show 3 + 1 ≤ 100000 by decide)), (fun z => nomatch z), fun _ z hz => ?_⟩
          refine k _ _ (.con1 i row.name w) st3 (S.sm (Sm.new hz)) (hB.keep fun a o e _ => Sm.new hz a o e) (hst.sm (Sm.new hz)) ?_ (.con _ _ _ _ _ _ sp) (by simpa [Vl.oka] using ok)
          simp only [Vl.d]
          exact Rp.mk upd_same (.cons sok (.cons (.int _) (.cons (.str _ nok) (.cons (rw.on (KT.upd_new hz)) .nil))))
        rw [decide_eq_false h0]
        refine iteF (A := _) ?_
        refine ⟨_, rfl, a, _, _, _, rfl, rfl, hs, at0, rfl, _, rfl, iteY (by decide +kernel) ?_⟩
        refine ⟨_, rfl, a, _, _, _, rfl, rfl, hs, at1, _, rfl, a, _, _, _, rfl, rfl, hs, at2, _, _, rfl, rfl, hlen, _, rfl, a, _, _, _, rfl, rfl, hs, at3, (show 4 ≤ sizeLine by decide), fun t1 h_t1 => ?_⟩
        have s_t1 : Sm H2 (upd H2 t1 (.tup [.str "con", .int i, .str (row.name ++ ("s" : Str)), .ref yv])) := Sm.new h_t1
        have r_t1 : Rp K (upd H2 t1 (.tup [.str "con", .int i, .str (row.name ++ ("s" : Str)), .ref yv])) (.ref t1) (.tuple _) := Rp.mk upd_same (RpAll.on (.cons sok (.cons (.int _) (.cons (.str _ (app_ok nok)) (.cons r_y .nil)))) (KT.upd_new h_t1))
        replace hB := hB.keep fun a o e _ => s_t1 a o e
        replace hst := hst.sm s_t1
        replace hs := (KT.same s_t1).sqt hs
        replace r_y := r_y.on (KT.same s_t1)
        replace S := S.sm s_t1
        clear h_t1
        clear s_t1
        generalize (upd H2 t1 (.tup [.str "con", .int i, .str (row.name ++ ("s" : Str)), .ref yv])) = Hq54 at hB hst hs r_y r_t1 S ⊢
        refine ⟨(show 2 ≤ sizeLine by decide), fun t2 h_t2 => ?_⟩
        have s_t2 : Sm Hq54 (upd Hq54 t2 (.tup [.str "int", .int 3])) := Sm.new h_t2
        have r_t2 : Rp K (upd Hq54 t2 (.tup [.str "int", .int 3])) (.ref t2) (.tuple _) := Rp.mk upd_same (RpAll.on (.cons sok (.cons (.int _) .nil)) (KT.upd_new h_t2))
        replace hB := hB.keep fun a o e _ => s_t2 a o e
        replace hst := hst.sm s_t2
        replace hs := (KT.same s_t2).sqt hs
        replace r_y := r_y.on (KT.same s_t2)
        replace r_t1 := r_t1.on (KT.same s_t2)
        replace S := S.sm s_t2
        clear h_t2
        clear s_t2
        generalize (upd Hq54 t2 (.tup [.str "int", .int 3])) = Hq55 at hB hst hs r_y r_t1 r_t2 S ⊢
        refine ⟨_, rfl, a, _, _, _, rfl, rfl, hs, at1, _, rfl, a, _, _, _, rfl, rfl, hs, at2, (show 2 ≤ sizeLine by decide), fun x3 h_x3 => ?_⟩
        have s_x3 : Sm Hq55 (upd Hq55 x3 (.tup [.str "int", .int 0])) := Sm.new h_x3
        have r_x3 : Rp K (upd Hq55 x3 (.tup [.str "int", .int 0])) (.ref x3) (.tuple _) := Rp.mk upd_same (RpAll.on (.cons sok (.cons (.int _) .nil)) (KT.upd_new h_x3))
        replace hB := hB.keep fun a o e _ => s_x3 a o e
        replace hst := hst.sm s_x3
        replace hs := (KT.same s_x3).sqt hs
        replace r_y := r_y.on (KT.same s_x3)
        replace r_t1 := r_t1.on (KT.same s_x3)
        replace r_t2 := r_t2.on (KT.same s_x3)
        replace S := S.sm s_x3
        clear h_x3
        clear s_x3
        generalize (upd Hq55 x3 (.tup [.str "int", .int 0])) = Hq56 at hB hst hs r_y r_t1 r_t2 r_x3 S ⊢
        refine ⟨(show 4 ≤ sizeLine by decide), fun t3 h_t3 => ?_⟩
        have s_t3 : Sm Hq56 (upd Hq56 t3 (.tup [.str "con", .int i, .str row.name, .ref x3])) := Sm.new h_t3
        have r_t3 : Rp K (upd Hq56 t3 (.tup [.str "con", .int i, .str row.name, .ref x3])) (.ref t3) (.tuple _) := Rp.mk upd_same (RpAll.on (.cons sok (.cons (.int _) (.cons (.str _ nok) (.cons r_x3 .nil)))) (KT.upd_new h_t3))
        replace hB := hB.keep fun a o e _ => s_t3 a o e
        replace hst := hst.sm s_t3
        replace hs := (KT.same s_t3).sqt hs
        replace r_y := r_y.on (KT.same s_t3)
        replace r_t1 := r_t1.on (KT.same s_t3)
        replace r_t2 := r_t2.on (KT.same s_t3)
        replace r_x3 := r_x3.on (KT.same s_t3)
        replace S := S.sm s_t3
        clear h_t3
        clear s_t3
        generalize (upd Hq56 t3 (.tup [.str "con", .int i, .str row.name, .ref x3])) = Hq57 at hB hst hs r_y r_t1 r_t2 r_x3 r_t3 S ⊢
        refine ⟨_, rfl, a, _, _, _, rfl, rfl, hs, at1, rfl, .inr ⟨_, rfl, ?_⟩⟩
        have ei : (if decide (V.int i = V.int 0) = true then (1 : Int) else 0) = (if i = 0 then 1 else 0) := by
          rw [dec_i]
          by_cases z : i = 0 <;> simp [z]
        rw [ei]
        refine ⟨_, rfl, a, _, _, _, rfl, rfl, hs, at2, _, rfl, a, _, _, _, rfl, rfl, hs, at3, (show 4 ≤ sizeLine by decide), fun t4 h_t4 => ?_⟩
        have s_t4 : Sm Hq57 (upd Hq57 t4 (.tup [.str "con", .int (if i = 0 then 1 else 0), .str row.name, .ref yv])) := Sm.new h_t4
        have r_t4 : Rp K (upd Hq57 t4 (.tup [.str "con", .int (if i = 0 then 1 else 0), .str row.name, .ref yv])) (.ref t4) (.tuple _) := Rp.mk upd_same (RpAll.on (.cons sok (.cons (.int _) (.cons (.str _ nok) (.cons r_y .nil)))) (KT.upd_new h_t4))
        replace hB := hB.keep fun a o e _ => s_t4 a o e
        replace hst := hst.sm s_t4
        replace hs := (KT.same s_t4).sqt hs
        replace r_y := r_y.on (KT.same s_t4)
        replace r_t1 := r_t1.on (KT.same s_t4)
        replace r_t2 := r_t2.on (KT.same s_t4)
        replace r_x3 := r_x3.on (KT.same s_t4)
        replace r_t3 := r_t3.on (KT.same s_t4)
        replace S := S.sm s_t4
        clear h_t4
        clear s_t4
        generalize (upd Hq57 t4 (.tup [.str "con", .int (if i = 0 then 1 else 0), .str row.name, .ref yv])) = Hq58 at hB hst hs r_y r_t1 r_t2 r_x3 r_t3 r_t4 S ⊢
        refine ⟨(show 4 ≤ sizeLine by decide), fun L h_L => ?_⟩
        have f_L := S.free hB hst h_L
        have s_L : Sm Hq58 (upd Hq58 L (.lst [.ref t1, .ref t2, .ref t3, .ref t4])) := Sm.new h_L
        have o_L : (upd Hq58 L (.lst [.ref t1, .ref t2, .ref t3, .ref t4])) L = some (.lst [.ref t1, .ref t2, .ref t3, .ref t4]) := upd_same
        replace hB := hB.keep fun a o e _ => s_L a o e
        replace hst := hst.sm s_L
        replace hs := (KT.same s_L).sqt hs
        replace r_y := r_y.on (KT.same s_L)
        replace r_t1 := r_t1.on (KT.same s_L)
        replace r_t2 := r_t2.on (KT.same s_L)
        replace r_x3 := r_x3.on (KT.same s_L)
        replace r_t3 := r_t3.on (KT.same s_L)
        replace r_t4 := r_t4.on (KT.same s_L)
        replace S := S.sm s_L
        clear h_L
        clear s_L
        generalize (upd Hq58 L (.lst [.ref t1, .ref t2, .ref t3, .ref t4])) = Hq59 at hB hst hs r_y r_t1 r_t2 r_x3 r_t3 r_t4 o_L S ⊢
        refine ⟨_, rfl, a, _, _, _, rfl, rfl, hs, at3, rfl, _, rfl, iteT (B := _) ?_⟩
        refine ⟨_, rfl, a, _, _, _, rfl, rfl, hs, at1, _, rfl, a, _, _, _, rfl, rfl, hs, at2, (show 4 ≤ sizeLine by decide), fun t5 h_t5 => ?_⟩
        have s_t5 : Sm Hq59 (upd Hq59 t5 (.tup [.str "con", .int i, .str row.name, .non])) := Sm.new h_t5
        have r_t5 : Rp K (upd Hq59 t5 (.tup [.str "con", .int i, .str row.name, .non])) (.ref t5) (.tuple _) := Rp.mk upd_same (RpAll.on (.cons sok (.cons (.int _) (.cons (.str _ nok) (.cons .non .nil)))) (KT.upd_new h_t5))
        replace hB := hB.keep fun a o e _ => s_t5 a o e
        replace hst := hst.sm s_t5
        replace hs := (KT.same s_t5).sqt hs
        replace r_y := r_y.on (KT.same s_t5)
        replace r_t1 := r_t1.on (KT.same s_t5)
        replace r_t2 := r_t2.on (KT.same s_t5)
        replace r_x3 := r_x3.on (KT.same s_t5)
        replace r_t3 := r_t3.on (KT.same s_t5)
        replace r_t4 := r_t4.on (KT.same s_t5)
        replace o_L := s_t5 _ _ o_L
        replace S := S.sm s_t5
        clear h_t5
        clear s_t5
        generalize (upd Hq59 t5 (.tup [.str "con", .int i, .str row.name, .non])) = Hq60 at hB hst hs r_y r_t1 r_t2 r_x3 r_t3 r_t4 o_L r_t5 S ⊢
        refine ⟨_, rfl, L, _, _, 2, rfl, rfl, o_L, rfl, ?_⟩
        have nL := hB.off2 o_L
        have nLs : L ≠ s := by
          intro z
          obtain ⟨vs0, es0, rs0⟩ := hst.at_
          rw [← z, o_L] at es0
          obtain ⟨vs1, e1', _⟩ := hst0.at_
          rw [z, e1'] at f_L
          cases f_L
        have ktL : KT Hq60 (upd Hq60 L (.lst [.ref t1, .ref t2, .ref t5, .ref t4])) := KT.upd_lst (NT.lst o_L)
        have hBn := hB.upd (o := .lst [.ref t1, .ref t2, .ref t5, .ref t4]) nL.1 nL.2
        have hsn := hst.upd (o := .lst [.ref t1, .ref t2, .ref t5, .ref t4]) nLs ktL
        have Sn := S.upd (o := .lst [.ref t1, .ref t2, .ref t5, .ref t4]) f_L
        have oL2 : (upd Hq60 L (.lst [.ref t1, .ref t2, .ref t5, .ref t4])) L = some (.lst [.ref t1, .ref t2, .ref t5, .ref t4]) := upd_same
        replace r_t1 := r_t1.on ktL
        replace r_t2 := r_t2.on ktL
        replace r_t5 := r_t5.on ktL
        replace r_t4 := r_t4.on ktL
        clear o_L hB hst S
        refine ⟨_, rfl, _, rfl, b, c, 4, rfl, by decide, by decide, hBn, fun r1 H1 r10 r11 hx1 hB1 => ?_⟩
        replace hsn := hsn.bx hBn hx1
        replace oL2 := (hx1 _ (hBn.off2 oL2).1 (hBn.off2 oL2).2).trans oL2
        replace r_t1 := r_t1.on (hBn.kt hx1)
        replace r_t2 := r_t2.on (hBn.kt hx1)
        replace r_t5 := r_t5.on (hBn.kt hx1)
        replace r_t4 := r_t4.on (hBn.kt hx1)
        replace Sn := Sn.bx hx1
        replace hBn := hB1
        have h3 : r1 = 0 ∨ r1 = 1 ∨ r1 = 2 ∨ r1 = 3 := by omega
        rcases h3 with rfl | rfl | rfl | rfl
        · exact ⟨L, _, _, _, rfl, rfl, SqL.of oL2, rfl, k _ _ (.con1 i (row.name ++ ("s" : Str)) y) st Sn hBn hsn (by simpa [Vl.d] using r_t1) (.name1 _ _ _ _ _ (app_ne _)) (by simpa [Vl.oka] using yok)⟩
        · exact ⟨L, _, _, _, rfl, rfl, SqL.of oL2, rfl, k _ _ (.int 3) st Sn hBn hsn (by simpa [Vl.d] using r_t2) (.kind _ _ _ (by simp only [Vl.tag]; decide +kernel) (by simp only [Vl.tag]; decide +kernel) (by simp only [Vl.tag]; decide +kernel)) (by simp [Vl.oka])⟩
        · exact ⟨L, _, _, _, rfl, rfl, SqL.of oL2, rfl, k _ _ (.con0 i row.name) st Sn hBn hsn (by simpa [Vl.d] using r_t5) (.arg1 _ _ _ _) (by simp [Vl.oka])⟩
        · exact ⟨L, _, _, _, rfl, rfl, SqL.of oL2, rfl, k _ _ (.con1 (if i = 0 then 1 else 0) row.name y) st Sn hBn hsn (by simpa [Vl.d] using r_t4) (.idx1 _ _ _ _) (by simpa [Vl.oka] using yok)⟩
end
end K88

set_option Elab.async false
set_option maxRecDepth 100000
set_option linter.all false
set_option pp.maxSteps 400
set_option maxHeartbeats 40000000
namespace K88
open PySem L2 GD AG
section
variable {P : Program} {w : World} {K : PySem.W.Frag} {mg : Str → Option Value} {base : Heap} {A : Adr}
def spDone : Sp := fun vs H Q _ => ∃ (b c : Addr), vs = [.ref b] ∧ BoxAt H b c ∧ ∀ H', Bs b c H H' → BoxAt H' b c → Q (.bl true) H'
theorem ok_deep (T : Txt K mg A) : FnOk P w K mg base CX0 194 A.f__law_deep A.d__law_deep ["box"] spDone := by
  have G__law_draw : FnOk P w K mg base CX0 2 A.f__law_draw A.d__law_draw _ _ := ok__law_draw T
  have G__law_entries : FnOk P w K mg base CX0 1 A.f__law_entries A.d__law_entries _ _ := ok_ents T
  have G_agrees : FnOk P w K mg base CX0 192 A.f_agrees A.d_agrees _ _ := ok_agr T 60
  refine T.F__law_deep.ok (k := 193) sc__law_deep (fun vs H Q E h => ?_) (fun cdv Ar outer s H vs Q E hr h => ?_)
  · obtain ⟨b, c, rfl, _⟩ := h
    rfl
  · obtain ⟨b, c, rfl, hB, k⟩ := h
    refine ⟨_, (pss_cons (ps_set (i := 1) sc__law_deep.nd rfl (Or.inl rfl) (pe_call G__law_draw (hr.mono (by first | decide | omega)) rfl T.g__law_draw T.F__law_draw.kp T.b__law_draw .nil pass0 (pa_cons (pv 0) (pa_cons pe_int pa_nil)))) (pss_cons (ps_set (i := 2) sc__law_deep.nd rfl (Or.inl rfl) (pe_tup (pa_cons pe_str (pa_cons pe_int (pa_cons (pe_tup pa_nil) pa_nil))))) (pss_cons (ps_set (i := 3) sc__law_deep.nd rfl (Or.inl rfl) (pe_tup (pa_cons pe_str (pa_cons (pe_tup pa_nil) pa_nil)))) (pss_cons (ps_for PassesOwn.never rfl (pi_range1 rfl T.n_range (pa_cons (pv 1) pa_nil)) (pg_name (i := 4) sc__law_deep.nd rfl (Or.inl rfl)) (pss_cons (ps_set (i := 5) sc__law_deep.nd rfl (Or.inl rfl) (pe_call G__law_draw (hr.mono (by first | decide | omega)) rfl T.g__law_draw T.F__law_draw.kp T.b__law_draw .nil pass0 (pa_cons (pv 0) (pa_cons pe_int pa_nil)))) (pss_one (ps_if (pt_cmpR op_eq (pv 5) pe_int (nomark _)) (pss_cons (ps_set (i := 2) sc__law_deep.nd rfl (Or.inl rfl) (pe_tup (pa_cons pe_str (pa_cons pe_int (pa_cons (pe_tup (pa_cons (pv 2) pa_nil)) pa_nil))))) (pss_one (ps_set (i := 3) sc__law_deep.nd rfl (Or.inl rfl) (pe_tup (pa_cons pe_str (pa_cons pe_int (pa_cons pe_str (pa_cons (pv 3) pa_nil)))))))) (pss_one (ps_if (pt_cmpR op_eq (pv 5) pe_int (nomark _)) (pss_cons (ps_set (i := 2) sc__law_deep.nd rfl (Or.inl rfl) (pe_tup (pa_cons pe_str (pa_cons (pe_tup (pa_cons (pe_tup (pa_cons pe_str (pa_cons pe_int (pa_cons (pe_tup pa_nil) pa_nil)))) (pa_cons (pv 2) pa_nil))) pa_nil)))) (pss_one (ps_set (i := 3) sc__law_deep.nd rfl (Or.inl rfl) (pe_tup (pa_cons pe_str (pa_cons (pe_tup (pa_cons (pe_tup (pa_cons pe_str (pa_cons (pe_tup pa_nil) pa_nil))) (pa_cons (pv 3) pa_nil))) pa_nil)))))) (pss_cons (ps_set (i := 2) sc__law_deep.nd rfl (Or.inl rfl) (pe_tup (pa_cons pe_str (pa_cons pe_int (pa_cons (pe_tup (pa_cons (pe_tup (pa_cons pe_str (pa_cons pe_int (pa_cons (pe_tup pa_nil) pa_nil)))) (pa_cons (pv 2) pa_nil))) pa_nil))))) (pss_one (ps_set (i := 3) sc__law_deep.nd rfl (Or.inl rfl) (pe_tup (pa_cons pe_str (pa_cons pe_int (pa_cons pe_str (pa_cons (pv 3) pa_nil)))))))))))))) (pss_cons (ps_set (i := 6) sc__law_deep.nd rfl (Or.inl rfl) (pe_call G__law_draw (hr.mono (by first | decide | omega)) rfl T.g__law_draw T.F__law_draw.kp T.b__law_draw .nil pass0 (pa_cons (pv 0) (pa_cons pe_int pa_nil)))) (pss_cons (ps_set (i := 7) sc__law_deep.nd rfl (Or.inl rfl) (pe_call G_agrees (hr.mono (by first | decide | omega)) rfl T.g_agrees T.F_agrees.kp T.b_agrees .nil pass0 (pa_cons (pe_call G__law_entries (hr.mono (by first | decide | omega)) rfl T.g__law_entries T.F__law_entries.kp T.b__law_entries .nil pass0 (pa_cons pe_int pa_nil)) (pa_cons (pv 2) (pa_cons (pv 3) (pa_cons (pe_tup pa_nil) (pa_cons (pv 6) pa_nil))))))) (pss_cons (ps_if (PW.pt (pw_or (pt_not (pt_val (pe_callB call_isi (by rfl) T.n_isinstance (by decide +kernel) (pa_cons (pv 7) (pa_cons (pe_bltn (v := .ty "bool") (by rfl) T.n_bool (by decide +kernel) rfl) pa_nil))) (by intro _; rfl))) (pw_or1 (pt_cmpR op_ne (pv 7) (pe_cmpR op_le (pv 6) (pv 1) (nomark _)) (nomark _))))) (pss_one (ps_ret pe_bl)) pss_nil) (pss_cons (ps_set (i := 8) sc__law_deep.nd rfl (Or.inl rfl) (pe_tup (pa_cons pe_str (pa_cons pe_str (pa_cons pe_int (pa_cons (pe_tup (pa_cons pe_str (pa_cons pe_int (pa_cons (pe_tup (pa_cons (pe_tup (pa_cons pe_str (pa_cons pe_int (pa_cons (pe_tup pa_nil) pa_nil)))) pa_nil)) pa_nil)))) (pa_cons (pe_tup (pa_cons pe_str (pa_cons pe_int (pa_cons (pe_tup pa_nil) pa_nil)))) (pa_cons pe_int (pa_cons (pe_tup (pa_cons (pe_tup (pa_cons pe_str (pa_cons pe_bl pa_nil))) pa_nil)) pa_nil))))))))) (pss_cons (ps_set (i := 9) sc__law_deep.nd rfl (Or.inl rfl) (pe_tup (pa_cons pe_str (pa_cons pe_int (pa_cons pe_str (pa_cons (pe_tup (pa_cons pe_str (pa_cons pe_int pa_nil))) pa_nil)))))) (pss_cons (ps_set (i := 10) sc__law_deep.nd rfl (Or.inl rfl) (pe_op op_catT (pe_ix (ixt (K := K) rfl) (pe_glob (v := .ref A.c_BASIS) rfl T.g_BASIS rfl) pe_int (fun _ _ => rfl)) (pe_tup (pa_cons (pv 8) pa_nil)))) (pss_cons (ps_if (pt_cmpR op_notBl (pe_call G_agrees (hr.mono (by first | decide | omega)) rfl T.g_agrees T.F_agrees.kp T.b_agrees .nil pass0 (pa_cons (pv 10) (pa_cons (pe_tup (pa_cons pe_str (pa_cons pe_int (pa_cons (pe_tup pa_nil) pa_nil)))) (pa_cons (pv 9) (pa_cons (pe_tup (pa_cons (pv 9) pa_nil)) (pa_cons pe_int pa_nil)))))) pe_bl (nomark _)) (pss_one (ps_ret pe_bl)) pss_nil) (pss_one (ps_ret (pe_cmpR op_isBl (pe_call G_agrees (hr.mono (by first | decide | omega)) rfl T.g_agrees T.F_agrees.kp T.b_agrees .nil pass0 (pa_cons (pv 10) (pa_cons (pe_tup (pa_cons pe_str (pa_cons pe_int (pa_cons (pe_tup pa_nil) pa_nil)))) (pa_cons (pv 9) (pa_cons (pe_tup (pa_cons (pe_tup (pa_cons pe_str (pa_cons pe_int (pa_cons pe_str (pa_cons (pe_tup (pa_cons pe_str (pa_cons pe_int pa_nil))) pa_nil))))) pa_nil)) (pa_cons pe_int pa_nil)))))) pe_bl (nomark _))))))))))))))), ?_⟩
    have S : Bs b c H H := Bs.refl
    refine ⟨_, rfl, b, c, 12, rfl, by decide, by decide, hB, fun many H1 m0 m1 hx1 hB1 => ?_⟩
    replace S := S.bx hx1
    replace hB := hB1
    refine ⟨Nat.zero_le _, fun e0 h_e0 => ?_⟩
    have s_e0 : Sm H1 (upd H1 e0 (.tup [])) := Sm.new h_e0
    have r_e0 : Rp K (upd H1 e0 (.tup [])) (.ref e0) (.tuple _) := Rp.mk upd_same (RpAll.on (.nil) (KT.upd_new h_e0))
    replace hB := hB.keep fun a o e _ => s_e0 a o e
    replace S := S.sm s_e0
    clear h_e0
    clear s_e0
    generalize (upd H1 e0 (.tup [])) = Hq1 at hB r_e0 S ⊢
    refine ⟨(show 3 ≤ sizeLine by decide), fun s0 h_s0 => ?_⟩
    have s_s0 : Sm Hq1 (upd Hq1 s0 (.tup [.str "c", .int 0, .ref e0])) := Sm.new h_s0
    have r_s0 : Rp K (upd Hq1 s0 (.tup [.str "c", .int 0, .ref e0])) (.ref s0) (.tuple _) := Rp.mk upd_same (RpAll.on (.cons sok (.cons (.int _) (.cons r_e0 .nil))) (KT.upd_new h_s0))
    replace hB := hB.keep fun a o e _ => s_s0 a o e
    replace r_e0 := r_e0.on (KT.same s_s0)
    replace S := S.sm s_s0
    clear h_s0
    clear s_s0
    generalize (upd Hq1 s0 (.tup [.str "c", .int 0, .ref e0])) = Hq2 at hB r_e0 r_s0 S ⊢
    refine ⟨Nat.zero_le _, fun e1 h_e1 => ?_⟩
    have s_e1 : Sm Hq2 (upd Hq2 e1 (.tup [])) := Sm.new h_e1
    have r_e1 : Rp K (upd Hq2 e1 (.tup [])) (.ref e1) (.tuple _) := Rp.mk upd_same (RpAll.on (.nil) (KT.upd_new h_e1))
    replace hB := hB.keep fun a o e _ => s_e1 a o e
    replace r_e0 := r_e0.on (KT.same s_e1)
    replace r_s0 := r_s0.on (KT.same s_e1)
    replace S := S.sm s_e1
    clear h_e1
    clear s_e1
    generalize (upd Hq2 e1 (.tup [])) = Hq3 at hB r_e0 r_s0 r_e1 S ⊢
    refine ⟨(show 2 ≤ sizeLine by decide), fun v0 h_v0 => ?_⟩
    have s_v0 : Sm Hq3 (upd Hq3 v0 (.tup [.str "tuple", .ref e1])) := Sm.new h_v0
    have r_v0 : Rp K (upd Hq3 v0 (.tup [.str "tuple", .ref e1])) (.ref v0) (.tuple _) := Rp.mk upd_same (RpAll.on (.cons sok (.cons r_e1 .nil)) (KT.upd_new h_v0))
    replace hB := hB.keep fun a o e _ => s_v0 a o e
    replace r_e0 := r_e0.on (KT.same s_v0)
    replace r_s0 := r_s0.on (KT.same s_v0)
    replace r_e1 := r_e1.on (KT.same s_v0)
    replace S := S.sm s_v0
    clear h_v0
    clear s_v0
    generalize (upd Hq3 v0 (.tup [.str "tuple", .ref e1])) = Hq4 at hB r_e0 r_s0 r_e1 r_v0 S ⊢
    refine ⟨_, rfl, many, rfl, by omega, by omega, for_range (lo := 0) (n := many.toNat) (fun i σ' H' => ∃ (sx vx : Addr) (sh : Sh) (v : Vl) (v4 v5 : Option V), σ' = [some (.ref b), some (.int many), some (.ref sx), some (.ref vx), v4, v5, none, none, none, none, none] ∧ Bs b c H H' ∧ BoxAt H' b c ∧ Rp K H' (.ref sx) sh.d ∧ Rp K H' (.ref vx) v.d ∧ AG.Dk i sh v) ?_ ?_ ?_⟩
    · exact ⟨s0, v0, .c 0 [], .tup [], none, none, rfl, S, hB, by simpa [Sh.d, Sh.ds] using r_s0, by simpa [Vl.d, Vl.ds] using r_v0, .z⟩
    · clear r_e0 r_s0 r_e1 r_v0 S hB
      rintro i σ' H2 hi ⟨sx, vx, sh, v, v4, v5, rfl, S, hB, r_s, r_v, dk⟩
      refine ⟨_, rfl, b, c, 3, rfl, by decide, by decide, hB, fun kd H3 k0 k1 hx3 hB3 => ?_⟩
      replace r_s := r_s.on (hB.kt hx3)
      replace r_v := r_v.on (hB.kt hx3)
      replace S := S.bx hx3
      replace hB := hB3
      refine ⟨_, rfl, rfl, _, rfl, ?_⟩
      rw [dec_i]
      by_cases h0 : kd = 0
      · rw [decide_eq_true h0]
        refine iteT (B := _) ?_
        refine ⟨_, rfl, (show 1 ≤ sizeLine by decide), fun a1 h_a1 => ?_⟩
        have s_a1 : Sm H3 (upd H3 a1 (.tup [.ref sx])) := Sm.new h_a1
        have r_a1 : Rp K (upd H3 a1 (.tup [.ref sx])) (.ref a1) (.tuple _) := Rp.mk upd_same (RpAll.on (.cons r_s .nil) (KT.upd_new h_a1))
        replace hB := hB.keep fun a o e _ => s_a1 a o e
        replace r_s := r_s.on (KT.same s_a1)
        replace r_v := r_v.on (KT.same s_a1)
        replace S := S.sm s_a1
        clear h_a1
        clear s_a1
        generalize (upd H3 a1 (.tup [.ref sx])) = Hq5 at hB r_s r_v r_a1 S ⊢
        refine ⟨(show 3 ≤ sizeLine by decide), fun a2 h_a2 => ?_⟩
        have s_a2 : Sm Hq5 (upd Hq5 a2 (.tup [.str "c", .int 6, .ref a1])) := Sm.new h_a2
        have r_a2 : Rp K (upd Hq5 a2 (.tup [.str "c", .int 6, .ref a1])) (.ref a2) (.tuple _) := Rp.mk upd_same (RpAll.on (.cons sok (.cons (.int _) (.cons r_a1 .nil))) (KT.upd_new h_a2))
        replace hB := hB.keep fun a o e _ => s_a2 a o e
        replace r_s := r_s.on (KT.same s_a2)
        replace r_v := r_v.on (KT.same s_a2)
        replace r_a1 := r_a1.on (KT.same s_a2)
        replace S := S.sm s_a2
        clear h_a2
        clear s_a2
        generalize (upd Hq5 a2 (.tup [.str "c", .int 6, .ref a1])) = Hq6 at hB r_s r_v r_a1 r_a2 S ⊢
        refine ⟨_, rfl, (show 4 ≤ sizeLine by decide), fun a3 h_a3 => ?_⟩
        have s_a3 : Sm Hq6 (upd Hq6 a3 (.tup [.str "con", .int 1, .str "Some", .ref vx])) := Sm.new h_a3
        have r_a3 : Rp K (upd Hq6 a3 (.tup [.str "con", .int 1, .str "Some", .ref vx])) (.ref a3) (.tuple _) := Rp.mk upd_same (RpAll.on (.cons sok (.cons (.int _) (.cons sok (.cons r_v .nil)))) (KT.upd_new h_a3))
        replace hB := hB.keep fun a o e _ => s_a3 a o e
        replace r_s := r_s.on (KT.same s_a3)
        replace r_v := r_v.on (KT.same s_a3)
        replace r_a1 := r_a1.on (KT.same s_a3)
        replace r_a2 := r_a2.on (KT.same s_a3)
        replace S := S.sm s_a3
        clear h_a3
        clear s_a3
        generalize (upd Hq6 a3 (.tup [.str "con", .int 1, .str "Some", .ref vx])) = Hq7 at hB r_s r_v r_a1 r_a2 r_a3 S ⊢
        exact ⟨a2, a3, .c 6 [sh], .con1 1 "Some" v, _, _, rfl, S, hB, by simpa [Sh.d, Sh.ds] using r_a2, by simpa [Vl.d, Vl.ds] using r_a3, .opt _ _ _ dk⟩
      rw [decide_eq_false h0]
      refine iteF (A := _) ?_
      refine ⟨_, rfl, rfl, _, rfl, ?_⟩
      rw [dec_i]
      by_cases h1 : kd = 1
      · rw [decide_eq_true h1]
        refine iteT (B := _) ?_
        refine ⟨Nat.zero_le _, fun a0 h_a0 => ?_⟩
        have s_a0 : Sm H3 (upd H3 a0 (.tup [])) := Sm.new h_a0
        have r_a0 : Rp K (upd H3 a0 (.tup [])) (.ref a0) (.tuple _) := Rp.mk upd_same (RpAll.on (.nil) (KT.upd_new h_a0))
        replace hB := hB.keep fun a o e _ => s_a0 a o e
        replace r_s := r_s.on (KT.same s_a0)
        replace r_v := r_v.on (KT.same s_a0)
        replace S := S.sm s_a0
        clear h_a0
        clear s_a0
        generalize (upd H3 a0 (.tup [])) = Hq8 at hB r_s r_v r_a0 S ⊢
        refine ⟨(show 3 ≤ sizeLine by decide), fun a1 h_a1 => ?_⟩
        have s_a1 : Sm Hq8 (upd Hq8 a1 (.tup [.str "c", .int 1, .ref a0])) := Sm.new h_a1
        have r_a1 : Rp K (upd Hq8 a1 (.tup [.str "c", .int 1, .ref a0])) (.ref a1) (.tuple _) := Rp.mk upd_same (RpAll.on (.cons sok (.cons (.int _) (.cons r_a0 .nil))) (KT.upd_new h_a1))
        replace hB := hB.keep fun a o e _ => s_a1 a o e
        replace r_s := r_s.on (KT.same s_a1)
        replace r_v := r_v.on (KT.same s_a1)
        replace r_a0 := r_a0.on (KT.same s_a1)
        replace S := S.sm s_a1
        clear h_a1
        clear s_a1
        generalize (upd Hq8 a1 (.tup [.str "c", .int 1, .ref a0])) = Hq9 at hB r_s r_v r_a0 r_a1 S ⊢
        refine ⟨_, rfl, (show 2 ≤ sizeLine by decide), fun a2 h_a2 => ?_⟩
        have s_a2 : Sm Hq9 (upd Hq9 a2 (.tup [.ref a1, .ref sx])) := Sm.new h_a2
        have r_a2 : Rp K (upd Hq9 a2 (.tup [.ref a1, .ref sx])) (.ref a2) (.tuple _) := Rp.mk upd_same (RpAll.on (.cons r_a1 (.cons r_s .nil)) (KT.upd_new h_a2))
        replace hB := hB.keep fun a o e _ => s_a2 a o e
        replace r_s := r_s.on (KT.same s_a2)
        replace r_v := r_v.on (KT.same s_a2)
        replace r_a0 := r_a0.on (KT.same s_a2)
        replace r_a1 := r_a1.on (KT.same s_a2)
        replace S := S.sm s_a2
        clear h_a2
        clear s_a2
        generalize (upd Hq9 a2 (.tup [.ref a1, .ref sx])) = Hq10 at hB r_s r_v r_a0 r_a1 r_a2 S ⊢
        refine ⟨(show 2 ≤ sizeLine by decide), fun a3 h_a3 => ?_⟩
        have s_a3 : Sm Hq10 (upd Hq10 a3 (.tup [.str "t", .ref a2])) := Sm.new h_a3
        have r_a3 : Rp K (upd Hq10 a3 (.tup [.str "t", .ref a2])) (.ref a3) (.tuple _) := Rp.mk upd_same (RpAll.on (.cons sok (.cons r_a2 .nil)) (KT.upd_new h_a3))
        replace hB := hB.keep fun a o e _ => s_a3 a o e
        replace r_s := r_s.on (KT.same s_a3)
        replace r_v := r_v.on (KT.same s_a3)
        replace r_a0 := r_a0.on (KT.same s_a3)
        replace r_a1 := r_a1.on (KT.same s_a3)
        replace r_a2 := r_a2.on (KT.same s_a3)
        replace S := S.sm s_a3
        clear h_a3
        clear s_a3
        generalize (upd Hq10 a3 (.tup [.str "t", .ref a2])) = Hq11 at hB r_s r_v r_a0 r_a1 r_a2 r_a3 S ⊢
        refine ⟨Nat.zero_le _, fun a4 h_a4 => ?_⟩
        have s_a4 : Sm Hq11 (upd Hq11 a4 (.tup [])) := Sm.new h_a4
        have r_a4 : Rp K (upd Hq11 a4 (.tup [])) (.ref a4) (.tuple _) := Rp.mk upd_same (RpAll.on (.nil) (KT.upd_new h_a4))
        replace hB := hB.keep fun a o e _ => s_a4 a o e
        replace r_s := r_s.on (KT.same s_a4)
        replace r_v := r_v.on (KT.same s_a4)
        replace r_a0 := r_a0.on (KT.same s_a4)
        replace r_a1 := r_a1.on (KT.same s_a4)
        replace r_a2 := r_a2.on (KT.same s_a4)
        replace r_a3 := r_a3.on (KT.same s_a4)
        replace S := S.sm s_a4
        clear h_a4
        clear s_a4
        generalize (upd Hq11 a4 (.tup [])) = Hq12 at hB r_s r_v r_a0 r_a1 r_a2 r_a3 r_a4 S ⊢
        refine ⟨(show 2 ≤ sizeLine by decide), fun a5 h_a5 => ?_⟩
        have s_a5 : Sm Hq12 (upd Hq12 a5 (.tup [.str "tuple", .ref a4])) := Sm.new h_a5
        have r_a5 : Rp K (upd Hq12 a5 (.tup [.str "tuple", .ref a4])) (.ref a5) (.tuple _) := Rp.mk upd_same (RpAll.on (.cons sok (.cons r_a4 .nil)) (KT.upd_new h_a5))
        replace hB := hB.keep fun a o e _ => s_a5 a o e
        replace r_s := r_s.on (KT.same s_a5)
        replace r_v := r_v.on (KT.same s_a5)
        replace r_a0 := r_a0.on (KT.same s_a5)
        replace r_a1 := r_a1.on (KT.same s_a5)
        replace r_a2 := r_a2.on (KT.same s_a5)
        replace r_a3 := r_a3.on (KT.same s_a5)
        replace r_a4 := r_a4.on (KT.same s_a5)
        replace S := S.sm s_a5
        clear h_a5
        clear s_a5
        generalize (upd Hq12 a5 (.tup [.str "tuple", .ref a4])) = Hq13 at hB r_s r_v r_a0 r_a1 r_a2 r_a3 r_a4 r_a5 S ⊢
        refine ⟨_, rfl, (show 2 ≤ sizeLine by decide), fun a6 h_a6 => ?_⟩
        have s_a6 : Sm Hq13 (upd Hq13 a6 (.tup [.ref a5, .ref vx])) := Sm.new h_a6
        have r_a6 : Rp K (upd Hq13 a6 (.tup [.ref a5, .ref vx])) (.ref a6) (.tuple _) := Rp.mk upd_same (RpAll.on (.cons r_a5 (.cons r_v .nil)) (KT.upd_new h_a6))
        replace hB := hB.keep fun a o e _ => s_a6 a o e
        replace r_s := r_s.on (KT.same s_a6)
        replace r_v := r_v.on (KT.same s_a6)
        replace r_a0 := r_a0.on (KT.same s_a6)
        replace r_a1 := r_a1.on (KT.same s_a6)
        replace r_a2 := r_a2.on (KT.same s_a6)
        replace r_a3 := r_a3.on (KT.same s_a6)
        replace r_a4 := r_a4.on (KT.same s_a6)
        replace r_a5 := r_a5.on (KT.same s_a6)
        replace S := S.sm s_a6
        clear h_a6
        clear s_a6
        generalize (upd Hq13 a6 (.tup [.ref a5, .ref vx])) = Hq14 at hB r_s r_v r_a0 r_a1 r_a2 r_a3 r_a4 r_a5 r_a6 S ⊢
        refine ⟨(show 2 ≤ sizeLine by decide), fun a7 h_a7 => ?_⟩
        have s_a7 : Sm Hq14 (upd Hq14 a7 (.tup [.str "tuple", .ref a6])) := Sm.new h_a7
        have r_a7 : Rp K (upd Hq14 a7 (.tup [.str "tuple", .ref a6])) (.ref a7) (.tuple _) := Rp.mk upd_same (RpAll.on (.cons sok (.cons r_a6 .nil)) (KT.upd_new h_a7))
        replace hB := hB.keep fun a o e _ => s_a7 a o e
        replace r_s := r_s.on (KT.same s_a7)
        replace r_v := r_v.on (KT.same s_a7)
        replace r_a0 := r_a0.on (KT.same s_a7)
        replace r_a1 := r_a1.on (KT.same s_a7)
        replace r_a2 := r_a2.on (KT.same s_a7)
        replace r_a3 := r_a3.on (KT.same s_a7)
        replace r_a4 := r_a4.on (KT.same s_a7)
        replace r_a5 := r_a5.on (KT.same s_a7)
        replace r_a6 := r_a6.on (KT.same s_a7)
        replace S := S.sm s_a7
        clear h_a7
        clear s_a7
        generalize (upd Hq14 a7 (.tup [.str "tuple", .ref a6])) = Hq15 at hB r_s r_v r_a0 r_a1 r_a2 r_a3 r_a4 r_a5 r_a6 r_a7 S ⊢
        exact ⟨a3, a7, .t [.c 1 [], sh], .tup [.tup [], v], _, _, rfl, S, hB, by simpa [Sh.d, Sh.ds] using r_a3, by simpa [Vl.d, Vl.ds] using r_a7, .pair _ _ _ dk⟩
      rw [decide_eq_false h1]
      refine iteF (A := _) ?_
      refine ⟨Nat.zero_le _, fun a0 h_a0 => ?_⟩
      have s_a0 : Sm H3 (upd H3 a0 (.tup [])) := Sm.new h_a0
      have r_a0 : Rp K (upd H3 a0 (.tup [])) (.ref a0) (.tuple _) := Rp.mk upd_same (RpAll.on (.nil) (KT.upd_new h_a0))
      replace hB := hB.keep fun a o e _ => s_a0 a o e
      replace r_s := r_s.on (KT.same s_a0)
      replace r_v := r_v.on (KT.same s_a0)
      replace S := S.sm s_a0
      clear h_a0
      clear s_a0
      generalize (upd H3 a0 (.tup [])) = Hq16 at hB r_s r_v r_a0 S ⊢
      refine ⟨(show 3 ≤ sizeLine by decide), fun a1 h_a1 => ?_⟩
      have s_a1 : Sm Hq16 (upd Hq16 a1 (.tup [.str "c", .int 1, .ref a0])) := Sm.new h_a1
      have r_a1 : Rp K (upd Hq16 a1 (.tup [.str "c", .int 1, .ref a0])) (.ref a1) (.tuple _) := Rp.mk upd_same (RpAll.on (.cons sok (.cons (.int _) (.cons r_a0 .nil))) (KT.upd_new h_a1))
      replace hB := hB.keep fun a o e _ => s_a1 a o e
      replace r_s := r_s.on (KT.same s_a1)
      replace r_v := r_v.on (KT.same s_a1)
      replace r_a0 := r_a0.on (KT.same s_a1)
      replace S := S.sm s_a1
      clear h_a1
      clear s_a1
      generalize (upd Hq16 a1 (.tup [.str "c", .int 1, .ref a0])) = Hq17 at hB r_s r_v r_a0 r_a1 S ⊢
      refine ⟨_, rfl, (show 2 ≤ sizeLine by decide), fun a2 h_a2 => ?_⟩
      have s_a2 : Sm Hq17 (upd Hq17 a2 (.tup [.ref a1, .ref sx])) := Sm.new h_a2
      have r_a2 : Rp K (upd Hq17 a2 (.tup [.ref a1, .ref sx])) (.ref a2) (.tuple _) := Rp.mk upd_same (RpAll.on (.cons r_a1 (.cons r_s .nil)) (KT.upd_new h_a2))
      replace hB := hB.keep fun a o e _ => s_a2 a o e
      replace r_s := r_s.on (KT.same s_a2)
      replace r_v := r_v.on (KT.same s_a2)
      replace r_a0 := r_a0.on (KT.same s_a2)
      replace r_a1 := r_a1.on (KT.same s_a2)
      replace S := S.sm s_a2
      clear h_a2
      clear s_a2
      generalize (upd Hq17 a2 (.tup [.ref a1, .ref sx])) = Hq18 at hB r_s r_v r_a0 r_a1 r_a2 S ⊢
      refine ⟨(show 3 ≤ sizeLine by decide), fun a3 h_a3 => ?_⟩
      have s_a3 : Sm Hq18 (upd Hq18 a3 (.tup [.str "c", .int 8, .ref a2])) := Sm.new h_a3
      have r_a3 : Rp K (upd Hq18 a3 (.tup [.str "c", .int 8, .ref a2])) (.ref a3) (.tuple _) := Rp.mk upd_same (RpAll.on (.cons sok (.cons (.int _) (.cons r_a2 .nil))) (KT.upd_new h_a3))
      replace hB := hB.keep fun a o e _ => s_a3 a o e
      replace r_s := r_s.on (KT.same s_a3)
      replace r_v := r_v.on (KT.same s_a3)
      replace r_a0 := r_a0.on (KT.same s_a3)
      replace r_a1 := r_a1.on (KT.same s_a3)
      replace r_a2 := r_a2.on (KT.same s_a3)
      replace S := S.sm s_a3
      clear h_a3
      clear s_a3
      generalize (upd Hq18 a3 (.tup [.str "c", .int 8, .ref a2])) = Hq19 at hB r_s r_v r_a0 r_a1 r_a2 r_a3 S ⊢
      refine ⟨_, rfl, (show 4 ≤ sizeLine by decide), fun a4 h_a4 => ?_⟩
      have s_a4 : Sm Hq19 (upd Hq19 a4 (.tup [.str "con", .int 2, .str "C", .ref vx])) := Sm.new h_a4
      have r_a4 : Rp K (upd Hq19 a4 (.tup [.str "con", .int 2, .str "C", .ref vx])) (.ref a4) (.tuple _) := Rp.mk upd_same (RpAll.on (.cons sok (.cons (.int _) (.cons sok (.cons r_v .nil)))) (KT.upd_new h_a4))
      replace hB := hB.keep fun a o e _ => s_a4 a o e
      replace r_s := r_s.on (KT.same s_a4)
      replace r_v := r_v.on (KT.same s_a4)
      replace r_a0 := r_a0.on (KT.same s_a4)
      replace r_a1 := r_a1.on (KT.same s_a4)
      replace r_a2 := r_a2.on (KT.same s_a4)
      replace r_a3 := r_a3.on (KT.same s_a4)
      replace S := S.sm s_a4
      clear h_a4
      clear s_a4
      generalize (upd Hq19 a4 (.tup [.str "con", .int 2, .str "C", .ref vx])) = Hq20 at hB r_s r_v r_a0 r_a1 r_a2 r_a3 r_a4 S ⊢
      exact ⟨a3, a4, .c 8 [.c 1 [], sh], .con1 2 "C" v, _, _, rfl, S, hB, by simpa [Sh.d, Sh.ds] using r_a3, by simpa [Vl.d, Vl.ds] using r_a4, .own _ _ _ dk⟩
    · clear r_e0 r_s0 r_e1 r_v0 S hB
      rintro σ' H2 ⟨sx, vx, sh, v, v4, v5, rfl, S, hB, r_s, r_v, dk⟩
      refine ⟨_, rfl, b, c, 20, rfl, by decide, by decide, hB, fun d H3 d0 d1 hx3 hB3 => ?_⟩
      replace r_s := r_s.on (hB.kt hx3)
      replace r_v := r_v.on (hB.kt hx3)
      replace S := S.bx hx3
      replace hB := hB3
      refine ⟨3, rfl, fun en H4 s4 r_en => ?_⟩
      replace hB := hB.keep fun a o e _ => s4 a o e
      replace r_s := r_s.on (KT.same s4)
      replace r_v := r_v.on (KT.same s4)
      replace S := S.sm s4
      refine ⟨_, rfl, _, rfl, Nat.zero_le _, fun e h_e => ?_⟩
      have s_e : Sm H4 (upd H4 e (.tup [])) := Sm.new h_e
      have r_e : Rp K (upd H4 e (.tup [])) (.ref e) (.tuple _) := Rp.mk upd_same (RpAll.on (.nil) (KT.upd_new h_e))
      replace hB := hB.keep fun a o e _ => s_e a o e
      replace r_s := r_s.on (KT.same s_e)
      replace r_v := r_v.on (KT.same s_e)
      replace r_en := r_en.on (KT.same s_e)
      replace S := S.sm s_e
      clear h_e
      clear s_e
      generalize (upd H4 e (.tup [])) = Hq21 at hB r_s r_v r_en r_e S ⊢
      obtain ⟨hf, hok⟩ := dk.fit
      refine ⟨_, rfl, arK 0, en, .ref sx, .ref vx, .ref e, d, esOf 3, [], sh, v, rfl, by omega, ⟨es_env 3 0 (by decide) [] (by simp [Vl.okas]), r_en, by simpa [Vl.ds] using r_e⟩, r_s, hf, r_v, hok, fun H5 s5 => ?_⟩
      replace hB := hB.keep fun a o e _ => s5 a o e
      replace r_s := r_s.on (KT.same s5)
      replace r_v := r_v.on (KT.same s5)
      replace r_en := r_en.on (KT.same s5)
      replace r_e := r_e.on (KT.same s5)
      replace S := S.sm s5
      rw [rows_full, dk.agr]
      refine ⟨_, rfl, _, _, _, _, true, rfl, .ty _, .base (.bl _), kit_ty (by decide +kernel), _, rfl, ?_⟩
      refine iteF (A := _) ?_
      have hd : decide (d.toNat ≤ many.toNat) = decide (d ≤ many) := by
        by_cases z : d ≤ many
        · rw [decide_eq_true z, decide_eq_true (by omega)]
        · rw [decide_eq_false z, decide_eq_false (by omega)]
      rw [hd]
      refine ⟨_, rfl, _, rfl, _, rfl, _, _, rfl, rfl, rfl, _, rfl, iteN (by simp) ?_⟩
      clear r_e r_s r_v r_en
      refine ⟨Nat.zero_le _, fun a0 h_a0 => ?_⟩
      have s_a0 : Sm H5 (upd H5 a0 (.tup [])) := Sm.new h_a0
      have r_a0 : Rp K (upd H5 a0 (.tup [])) (.ref a0) (.tuple _) := Rp.mk upd_same (RpAll.on (.nil) (KT.upd_new h_a0))
      replace hB := hB.keep fun a o e _ => s_a0 a o e
      replace S := S.sm s_a0
      clear h_a0
      clear s_a0
      generalize (upd H5 a0 (.tup [])) = Hq22 at hB r_a0 S ⊢
      refine ⟨(show 3 ≤ sizeLine by decide), fun a1 h_a1 => ?_⟩
      have s_a1 : Sm Hq22 (upd Hq22 a1 (.tup [.str "c", .int 9, .ref a0])) := Sm.new h_a1
      have r_a1 : Rp K (upd Hq22 a1 (.tup [.str "c", .int 9, .ref a0])) (.ref a1) (.tuple _) := Rp.mk upd_same (RpAll.on (.cons sok (.cons (.int _) (.cons r_a0 .nil))) (KT.upd_new h_a1))
      replace hB := hB.keep fun a o e _ => s_a1 a o e
      replace r_a0 := r_a0.on (KT.same s_a1)
      replace S := S.sm s_a1
      clear h_a1
      clear s_a1
      generalize (upd Hq22 a1 (.tup [.str "c", .int 9, .ref a0])) = Hq23 at hB r_a0 r_a1 S ⊢
      refine ⟨(show 1 ≤ sizeLine by decide), fun a2 h_a2 => ?_⟩
      have s_a2 : Sm Hq23 (upd Hq23 a2 (.tup [.ref a1])) := Sm.new h_a2
      have r_a2 : Rp K (upd Hq23 a2 (.tup [.ref a1])) (.ref a2) (.tuple _) := Rp.mk upd_same (RpAll.on (.cons r_a1 .nil) (KT.upd_new h_a2))
      replace hB := hB.keep fun a o e _ => s_a2 a o e
      replace r_a0 := r_a0.on (KT.same s_a2)
      replace r_a1 := r_a1.on (KT.same s_a2)
      replace S := S.sm s_a2
      clear h_a2
      clear s_a2
      generalize (upd Hq23 a2 (.tup [.ref a1])) = Hq24 at hB r_a0 r_a1 r_a2 S ⊢
      refine ⟨(show 3 ≤ sizeLine by decide), fun a3 h_a3 => ?_⟩
      have s_a3 : Sm Hq24 (upd Hq24 a3 (.tup [.str "c", .int 3, .ref a2])) := Sm.new h_a3
      have r_a3 : Rp K (upd Hq24 a3 (.tup [.str "c", .int 3, .ref a2])) (.ref a3) (.tuple _) := Rp.mk upd_same (RpAll.on (.cons sok (.cons (.int _) (.cons r_a2 .nil))) (KT.upd_new h_a3))
      replace hB := hB.keep fun a o e _ => s_a3 a o e
      replace r_a0 := r_a0.on (KT.same s_a3)
      replace r_a1 := r_a1.on (KT.same s_a3)
      replace r_a2 := r_a2.on (KT.same s_a3)
      replace S := S.sm s_a3
      clear h_a3
      clear s_a3
      generalize (upd Hq24 a3 (.tup [.str "c", .int 3, .ref a2])) = Hq25 at hB r_a0 r_a1 r_a2 r_a3 S ⊢
      refine ⟨Nat.zero_le _, fun b0 h_b0 => ?_⟩
      have s_b0 : Sm Hq25 (upd Hq25 b0 (.tup [])) := Sm.new h_b0
      have r_b0 : Rp K (upd Hq25 b0 (.tup [])) (.ref b0) (.tuple _) := Rp.mk upd_same (RpAll.on (.nil) (KT.upd_new h_b0))
      replace hB := hB.keep fun a o e _ => s_b0 a o e
      replace r_a0 := r_a0.on (KT.same s_b0)
      replace r_a1 := r_a1.on (KT.same s_b0)
      replace r_a2 := r_a2.on (KT.same s_b0)
      replace r_a3 := r_a3.on (KT.same s_b0)
      replace S := S.sm s_b0
      clear h_b0
      clear s_b0
      generalize (upd Hq25 b0 (.tup [])) = Hq26 at hB r_a0 r_a1 r_a2 r_a3 r_b0 S ⊢
      refine ⟨(show 3 ≤ sizeLine by decide), fun b1 h_b1 => ?_⟩
      have s_b1 : Sm Hq26 (upd Hq26 b1 (.tup [.str "c", .int 9, .ref b0])) := Sm.new h_b1
      have r_b1 : Rp K (upd Hq26 b1 (.tup [.str "c", .int 9, .ref b0])) (.ref b1) (.tuple _) := Rp.mk upd_same (RpAll.on (.cons sok (.cons (.int _) (.cons r_b0 .nil))) (KT.upd_new h_b1))
      replace hB := hB.keep fun a o e _ => s_b1 a o e
      replace r_a0 := r_a0.on (KT.same s_b1)
      replace r_a1 := r_a1.on (KT.same s_b1)
      replace r_a2 := r_a2.on (KT.same s_b1)
      replace r_a3 := r_a3.on (KT.same s_b1)
      replace r_b0 := r_b0.on (KT.same s_b1)
      replace S := S.sm s_b1
      clear h_b1
      clear s_b1
      generalize (upd Hq26 b1 (.tup [.str "c", .int 9, .ref b0])) = Hq27 at hB r_a0 r_a1 r_a2 r_a3 r_b0 r_b1 S ⊢
      refine ⟨(show 2 ≤ sizeLine by decide), fun f0 h_f0 => ?_⟩
      have s_f0 : Sm Hq27 (upd Hq27 f0 (.tup [.str "R", .bl true])) := Sm.new h_f0
      have r_f0 : Rp K (upd Hq27 f0 (.tup [.str "R", .bl true])) (.ref f0) (.tuple _) := Rp.mk upd_same (RpAll.on (.cons sok (.cons (.bl _) .nil)) (KT.upd_new h_f0))
      replace hB := hB.keep fun a o e _ => s_f0 a o e
      replace r_a0 := r_a0.on (KT.same s_f0)
      replace r_a1 := r_a1.on (KT.same s_f0)
      replace r_a2 := r_a2.on (KT.same s_f0)
      replace r_a3 := r_a3.on (KT.same s_f0)
      replace r_b0 := r_b0.on (KT.same s_f0)
      replace r_b1 := r_b1.on (KT.same s_f0)
      replace S := S.sm s_f0
      clear h_f0
      clear s_f0
      generalize (upd Hq27 f0 (.tup [.str "R", .bl true])) = Hq28 at hB r_a0 r_a1 r_a2 r_a3 r_b0 r_b1 r_f0 S ⊢
      refine ⟨(show 1 ≤ sizeLine by decide), fun f1 h_f1 => ?_⟩
      have s_f1 : Sm Hq28 (upd Hq28 f1 (.tup [.ref f0])) := Sm.new h_f1
      have r_f1 : Rp K (upd Hq28 f1 (.tup [.ref f0])) (.ref f1) (.tuple _) := Rp.mk upd_same (RpAll.on (.cons r_f0 .nil) (KT.upd_new h_f1))
      replace hB := hB.keep fun a o e _ => s_f1 a o e
      replace r_a0 := r_a0.on (KT.same s_f1)
      replace r_a1 := r_a1.on (KT.same s_f1)
      replace r_a2 := r_a2.on (KT.same s_f1)
      replace r_a3 := r_a3.on (KT.same s_f1)
      replace r_b0 := r_b0.on (KT.same s_f1)
      replace r_b1 := r_b1.on (KT.same s_f1)
      replace r_f0 := r_f0.on (KT.same s_f1)
      replace S := S.sm s_f1
      clear h_f1
      clear s_f1
      generalize (upd Hq28 f1 (.tup [.ref f0])) = Hq29 at hB r_a0 r_a1 r_a2 r_a3 r_b0 r_b1 r_f0 r_f1 S ⊢
      refine ⟨(show 7 ≤ sizeLine by decide), fun nd h_nd => ?_⟩
      have s_nd : Sm Hq29 (upd Hq29 nd (.tup [.str "con", .str "R", .int 0, .ref a3, .ref b1, .int 0, .ref f1])) := Sm.new h_nd
      have r_nd : Rp K (upd Hq29 nd (.tup [.str "con", .str "R", .int 0, .ref a3, .ref b1, .int 0, .ref f1])) (.ref nd) (.tuple _) := Rp.mk upd_same (RpAll.on (.cons sok (.cons sok (.cons (.int _) (.cons r_a3 (.cons r_b1 (.cons (.int _) (.cons r_f1 .nil))))))) (KT.upd_new h_nd))
      replace hB := hB.keep fun a o e _ => s_nd a o e
      replace r_a0 := r_a0.on (KT.same s_nd)
      replace r_a1 := r_a1.on (KT.same s_nd)
      replace r_a2 := r_a2.on (KT.same s_nd)
      replace r_a3 := r_a3.on (KT.same s_nd)
      replace r_b0 := r_b0.on (KT.same s_nd)
      replace r_b1 := r_b1.on (KT.same s_nd)
      replace r_f0 := r_f0.on (KT.same s_nd)
      replace r_f1 := r_f1.on (KT.same s_nd)
      replace S := S.sm s_nd
      clear h_nd
      clear s_nd
      generalize (upd Hq29 nd (.tup [.str "con", .str "R", .int 0, .ref a3, .ref b1, .int 0, .ref f1])) = Hq30 at hB r_a0 r_a1 r_a2 r_a3 r_b0 r_b1 r_f0 r_f1 r_nd S ⊢
      refine ⟨(show 2 ≤ sizeLine by decide), fun g0 h_g0 => ?_⟩
      have s_g0 : Sm Hq30 (upd Hq30 g0 (.tup [.str "ref", .int 0])) := Sm.new h_g0
      have r_g0 : Rp K (upd Hq30 g0 (.tup [.str "ref", .int 0])) (.ref g0) (.tuple _) := Rp.mk upd_same (RpAll.on (.cons sok (.cons (.int _) .nil)) (KT.upd_new h_g0))
      replace hB := hB.keep fun a o e _ => s_g0 a o e
      replace r_a0 := r_a0.on (KT.same s_g0)
      replace r_a1 := r_a1.on (KT.same s_g0)
      replace r_a2 := r_a2.on (KT.same s_g0)
      replace r_a3 := r_a3.on (KT.same s_g0)
      replace r_b0 := r_b0.on (KT.same s_g0)
      replace r_b1 := r_b1.on (KT.same s_g0)
      replace r_f0 := r_f0.on (KT.same s_g0)
      replace r_f1 := r_f1.on (KT.same s_g0)
      replace r_nd := r_nd.on (KT.same s_g0)
      replace S := S.sm s_g0
      clear h_g0
      clear s_g0
      generalize (upd Hq30 g0 (.tup [.str "ref", .int 0])) = Hq31 at hB r_a0 r_a1 r_a2 r_a3 r_b0 r_b1 r_f0 r_f1 r_nd r_g0 S ⊢
      refine ⟨(show 4 ≤ sizeLine by decide), fun rg h_rg => ?_⟩
      have s_rg : Sm Hq31 (upd Hq31 rg (.tup [.str "con", .int 0, .str "R", .ref g0])) := Sm.new h_rg
      have r_rg : Rp K (upd Hq31 rg (.tup [.str "con", .int 0, .str "R", .ref g0])) (.ref rg) (.tuple _) := Rp.mk upd_same (RpAll.on (.cons sok (.cons (.int _) (.cons sok (.cons r_g0 .nil)))) (KT.upd_new h_rg))
      replace hB := hB.keep fun a o e _ => s_rg a o e
      replace r_a0 := r_a0.on (KT.same s_rg)
      replace r_a1 := r_a1.on (KT.same s_rg)
      replace r_a2 := r_a2.on (KT.same s_rg)
      replace r_a3 := r_a3.on (KT.same s_rg)
      replace r_b0 := r_b0.on (KT.same s_rg)
      replace r_b1 := r_b1.on (KT.same s_rg)
      replace r_f0 := r_f0.on (KT.same s_rg)
      replace r_f1 := r_f1.on (KT.same s_rg)
      replace r_nd := r_nd.on (KT.same s_rg)
      replace r_g0 := r_g0.on (KT.same s_rg)
      replace S := S.sm s_rg
      clear h_rg
      clear s_rg
      generalize (upd Hq31 rg (.tup [.str "con", .int 0, .str "R", .ref g0])) = Hq32 at hB r_a0 r_a1 r_a2 r_a3 r_b0 r_b1 r_f0 r_f1 r_nd r_g0 r_rg S ⊢
      obtain ⟨bp, bxs, bq, hBas, hbp, hbx, bne, bln⟩ := basis_at T Hq32
      refine ⟨A.c_BASIS, _, _, _, rfl, rfl, hBas, at0, _, rfl, (show 1 ≤ sizeLine by decide), fun m1 h_m1 => ?_⟩
      have s_m1 : Sm Hq32 (upd Hq32 m1 (.tup [.ref nd])) := Sm.new h_m1
      have q_m1 : SqT K (upd Hq32 m1 (.tup [.ref nd])) m1 [.ref nd] := .inl (Rd.of upd_same)
      replace hB := hB.keep fun a o e _ => s_m1 a o e
      replace r_a0 := r_a0.on (KT.same s_m1)
      replace r_a1 := r_a1.on (KT.same s_m1)
      replace r_a2 := r_a2.on (KT.same s_m1)
      replace r_a3 := r_a3.on (KT.same s_m1)
      replace r_b0 := r_b0.on (KT.same s_m1)
      replace r_b1 := r_b1.on (KT.same s_m1)
      replace r_f0 := r_f0.on (KT.same s_m1)
      replace r_f1 := r_f1.on (KT.same s_m1)
      replace r_nd := r_nd.on (KT.same s_m1)
      replace r_g0 := r_g0.on (KT.same s_m1)
      replace r_rg := r_rg.on (KT.same s_m1)
      replace hbp := (KT.same s_m1).sqt hbp
      replace hbx := hbx.on (KT.same s_m1)
      replace S := S.sm s_m1
      clear h_m1
      clear s_m1
      generalize (upd Hq32 m1 (.tup [.ref nd])) = Hq33 at hB r_a0 r_a1 r_a2 r_a3 r_b0 r_b1 r_f0 r_f1 r_nd r_g0 r_rg hbp hbx q_m1 S ⊢
      refine ⟨bp, m1, bxs, [.ref nd], rfl, rfl, hbp, q_m1, bne, (by rw [bln]; exact small_le (show 39 + 1 ≤ 100000 by decide)), (fun z => nomatch z), fun _ en h_en => ?_⟩
      have s_en : Sm Hq33 (upd Hq33 en (.tup (bxs ++ [.ref nd]))) := Sm.new h_en
      have q_en : SqT K (upd Hq33 en (.tup (bxs ++ [.ref nd]))) en (bxs ++ [.ref nd]) := .inl (Rd.of upd_same)
      replace hB := hB.keep fun a o e _ => s_en a o e
      replace r_a0 := r_a0.on (KT.same s_en)
      replace r_a1 := r_a1.on (KT.same s_en)
      replace r_a2 := r_a2.on (KT.same s_en)
      replace r_a3 := r_a3.on (KT.same s_en)
      replace r_b0 := r_b0.on (KT.same s_en)
      replace r_b1 := r_b1.on (KT.same s_en)
      replace r_f0 := r_f0.on (KT.same s_en)
      replace r_f1 := r_f1.on (KT.same s_en)
      replace r_nd := r_nd.on (KT.same s_en)
      replace r_g0 := r_g0.on (KT.same s_en)
      replace r_rg := r_rg.on (KT.same s_en)
      replace hbp := (KT.same s_en).sqt hbp
      replace hbx := hbx.on (KT.same s_en)
      replace q_m1 := (KT.same s_en).sqt q_m1
      replace S := S.sm s_en
      clear h_en
      clear s_en
      generalize (upd Hq33 en (.tup (bxs ++ [.ref nd]))) = Hq34 at hB r_a0 r_a1 r_a2 r_a3 r_b0 r_b1 r_f0 r_f1 r_nd r_g0 r_rg hbp hbx q_m1 q_en S ⊢
      have r_en : Rp K Hq34 (.ref en) (.tuple (Ent.ds esR)) := by
        have e1 : Ent.ds esR = Ent.ds basisE ++ [rowR.d] := by
          unfold esR
          rw [eds_map, List.map_append, ← eds_map]
          simp [Ent.d]
        rw [e1]
        refine .tup q_en (hbx.app (.cons ?_ .nil))
        simpa [Row.d, Row.argD, rowR, Sh.d, Sh.ds, vars] using r_nd
      refine ⟨_, rfl, Nat.zero_le _, fun c0 h_c0 => ?_⟩
      have s_c0 : Sm Hq34 (upd Hq34 c0 (.tup [])) := Sm.new h_c0
      have r_c0 : Rp K (upd Hq34 c0 (.tup [])) (.ref c0) (.tuple _) := Rp.mk upd_same (RpAll.on (.nil) (KT.upd_new h_c0))
      replace hB := hB.keep fun a o e _ => s_c0 a o e
      replace r_a0 := r_a0.on (KT.same s_c0)
      replace r_a1 := r_a1.on (KT.same s_c0)
      replace r_a2 := r_a2.on (KT.same s_c0)
      replace r_a3 := r_a3.on (KT.same s_c0)
      replace r_b0 := r_b0.on (KT.same s_c0)
      replace r_b1 := r_b1.on (KT.same s_c0)
      replace r_f0 := r_f0.on (KT.same s_c0)
      replace r_f1 := r_f1.on (KT.same s_c0)
      replace r_nd := r_nd.on (KT.same s_c0)
      replace r_g0 := r_g0.on (KT.same s_c0)
      replace r_rg := r_rg.on (KT.same s_c0)
      replace hbp := (KT.same s_c0).sqt hbp
      replace hbx := hbx.on (KT.same s_c0)
      replace q_m1 := (KT.same s_c0).sqt q_m1
      replace q_en := (KT.same s_c0).sqt q_en
      replace r_en := r_en.on (KT.same s_c0)
      replace S := S.sm s_c0
      clear h_c0
      clear s_c0
      generalize (upd Hq34 c0 (.tup [])) = Hq35 at hB r_a0 r_a1 r_a2 r_a3 r_b0 r_b1 r_f0 r_f1 r_nd r_g0 r_rg hbp hbx q_m1 q_en r_en r_c0 S ⊢
      refine ⟨(show 3 ≤ sizeLine by decide), fun c1 h_c1 => ?_⟩
      have s_c1 : Sm Hq35 (upd Hq35 c1 (.tup [.str "c", .int 9, .ref c0])) := Sm.new h_c1
      have r_c1 : Rp K (upd Hq35 c1 (.tup [.str "c", .int 9, .ref c0])) (.ref c1) (.tuple _) := Rp.mk upd_same (RpAll.on (.cons sok (.cons (.int _) (.cons r_c0 .nil))) (KT.upd_new h_c1))
      replace hB := hB.keep fun a o e _ => s_c1 a o e
      replace r_a0 := r_a0.on (KT.same s_c1)
      replace r_a1 := r_a1.on (KT.same s_c1)
      replace r_a2 := r_a2.on (KT.same s_c1)
      replace r_a3 := r_a3.on (KT.same s_c1)
      replace r_b0 := r_b0.on (KT.same s_c1)
      replace r_b1 := r_b1.on (KT.same s_c1)
      replace r_f0 := r_f0.on (KT.same s_c1)
      replace r_f1 := r_f1.on (KT.same s_c1)
      replace r_nd := r_nd.on (KT.same s_c1)
      replace r_g0 := r_g0.on (KT.same s_c1)
      replace r_rg := r_rg.on (KT.same s_c1)
      replace hbp := (KT.same s_c1).sqt hbp
      replace hbx := hbx.on (KT.same s_c1)
      replace q_m1 := (KT.same s_c1).sqt q_m1
      replace q_en := (KT.same s_c1).sqt q_en
      replace r_en := r_en.on (KT.same s_c1)
      replace r_c0 := r_c0.on (KT.same s_c1)
      replace S := S.sm s_c1
      clear h_c1
      clear s_c1
      generalize (upd Hq35 c1 (.tup [.str "c", .int 9, .ref c0])) = Hq36 at hB r_a0 r_a1 r_a2 r_a3 r_b0 r_b1 r_f0 r_f1 r_nd r_g0 r_rg hbp hbx q_m1 q_en r_en r_c0 r_c1 S ⊢
      refine ⟨_, rfl, _, rfl, (show 1 ≤ sizeLine by decide), fun st1 h_st1 => ?_⟩
      have s_st1 : Sm Hq36 (upd Hq36 st1 (.tup [.ref rg])) := Sm.new h_st1
      have r_st1 : Rp K (upd Hq36 st1 (.tup [.ref rg])) (.ref st1) (.tuple _) := Rp.mk upd_same (RpAll.on (.cons r_rg .nil) (KT.upd_new h_st1))
      replace hB := hB.keep fun a o e _ => s_st1 a o e
      replace r_a0 := r_a0.on (KT.same s_st1)
      replace r_a1 := r_a1.on (KT.same s_st1)
      replace r_a2 := r_a2.on (KT.same s_st1)
      replace r_a3 := r_a3.on (KT.same s_st1)
      replace r_b0 := r_b0.on (KT.same s_st1)
      replace r_b1 := r_b1.on (KT.same s_st1)
      replace r_f0 := r_f0.on (KT.same s_st1)
      replace r_f1 := r_f1.on (KT.same s_st1)
      replace r_nd := r_nd.on (KT.same s_st1)
      replace r_g0 := r_g0.on (KT.same s_st1)
      replace r_rg := r_rg.on (KT.same s_st1)
      replace hbp := (KT.same s_st1).sqt hbp
      replace hbx := hbx.on (KT.same s_st1)
      replace q_m1 := (KT.same s_st1).sqt q_m1
      replace q_en := (KT.same s_st1).sqt q_en
      replace r_en := r_en.on (KT.same s_st1)
      replace r_c0 := r_c0.on (KT.same s_st1)
      replace r_c1 := r_c1.on (KT.same s_st1)
      replace S := S.sm s_st1
      clear h_st1
      clear s_st1
      generalize (upd Hq36 st1 (.tup [.ref rg])) = Hq37 at hB r_a0 r_a1 r_a2 r_a3 r_b0 r_b1 r_f0 r_f1 r_nd r_g0 r_rg hbp hbx q_m1 q_en r_en r_c0 r_c1 r_st1 S ⊢
      have hrok : Vl.okas [ring] := by simp [Vl.okas, ring, Vl.oka]
      refine ⟨arK 0, .ref en, .ref c1, .ref rg, .ref st1, 60, esR, [ring], .c 9 [], ring, rfl, by decide, ⟨esR_env _ hrok, r_en, by simpa [Vl.ds, Vl.d, ring] using r_st1⟩, by simpa [Sh.d, Sh.ds] using r_c1, by simp [Sh.fit, Sh.fits, arK], by simpa [Vl.d, ring] using r_rg, by simp [ring, Vl.oka], fun H6 s6 => ?_⟩
      rw [(ring_ok _).1]
      replace hB := hB.keep fun a o e _ => s6 a o e
      replace r_a0 := r_a0.on (KT.same s6)
      replace r_a1 := r_a1.on (KT.same s6)
      replace r_a2 := r_a2.on (KT.same s6)
      replace r_a3 := r_a3.on (KT.same s6)
      replace r_b0 := r_b0.on (KT.same s6)
      replace r_b1 := r_b1.on (KT.same s6)
      replace r_f0 := r_f0.on (KT.same s6)
      replace r_f1 := r_f1.on (KT.same s6)
      replace r_nd := r_nd.on (KT.same s6)
      replace r_g0 := r_g0.on (KT.same s6)
      replace r_rg := r_rg.on (KT.same s6)
      replace hbp := (KT.same s6).sqt hbp
      replace hbx := hbx.on (KT.same s6)
      replace q_m1 := (KT.same s6).sqt q_m1
      replace q_en := (KT.same s6).sqt q_en
      replace r_en := r_en.on (KT.same s6)
      replace r_c0 := r_c0.on (KT.same s6)
      replace r_c1 := r_c1.on (KT.same s6)
      replace r_st1 := r_st1.on (KT.same s6)
      replace S := S.sm s6
      refine ⟨true, true, rfl, rfl, _, rfl, iteN (by decide) ?_⟩
      refine ⟨_, rfl, Nat.zero_le _, fun d0 h_d0 => ?_⟩
      have s_d0 : Sm H6 (upd H6 d0 (.tup [])) := Sm.new h_d0
      have r_d0 : Rp K (upd H6 d0 (.tup [])) (.ref d0) (.tuple _) := Rp.mk upd_same (RpAll.on (.nil) (KT.upd_new h_d0))
      replace hB := hB.keep fun a o e _ => s_d0 a o e
      replace r_a0 := r_a0.on (KT.same s_d0)
      replace r_a1 := r_a1.on (KT.same s_d0)
      replace r_a2 := r_a2.on (KT.same s_d0)
      replace r_a3 := r_a3.on (KT.same s_d0)
      replace r_b0 := r_b0.on (KT.same s_d0)
      replace r_b1 := r_b1.on (KT.same s_d0)
      replace r_f0 := r_f0.on (KT.same s_d0)
      replace r_f1 := r_f1.on (KT.same s_d0)
      replace r_nd := r_nd.on (KT.same s_d0)
      replace r_g0 := r_g0.on (KT.same s_d0)
      replace r_rg := r_rg.on (KT.same s_d0)
      replace hbp := (KT.same s_d0).sqt hbp
      replace hbx := hbx.on (KT.same s_d0)
      replace q_m1 := (KT.same s_d0).sqt q_m1
      replace q_en := (KT.same s_d0).sqt q_en
      replace r_en := r_en.on (KT.same s_d0)
      replace r_c0 := r_c0.on (KT.same s_d0)
      replace r_c1 := r_c1.on (KT.same s_d0)
      replace r_st1 := r_st1.on (KT.same s_d0)
      replace S := S.sm s_d0
      clear h_d0
      clear s_d0
      generalize (upd H6 d0 (.tup [])) = Hq38 at hB r_a0 r_a1 r_a2 r_a3 r_b0 r_b1 r_f0 r_f1 r_nd r_g0 r_rg hbp hbx q_m1 q_en r_en r_c0 r_c1 r_st1 r_d0 S ⊢
      refine ⟨(show 3 ≤ sizeLine by decide), fun d1 h_d1 => ?_⟩
      have s_d1 : Sm Hq38 (upd Hq38 d1 (.tup [.str "c", .int 9, .ref d0])) := Sm.new h_d1
      have r_d1 : Rp K (upd Hq38 d1 (.tup [.str "c", .int 9, .ref d0])) (.ref d1) (.tuple _) := Rp.mk upd_same (RpAll.on (.cons sok (.cons (.int _) (.cons r_d0 .nil))) (KT.upd_new h_d1))
      replace hB := hB.keep fun a o e _ => s_d1 a o e
      replace r_a0 := r_a0.on (KT.same s_d1)
      replace r_a1 := r_a1.on (KT.same s_d1)
      replace r_a2 := r_a2.on (KT.same s_d1)
      replace r_a3 := r_a3.on (KT.same s_d1)
      replace r_b0 := r_b0.on (KT.same s_d1)
      replace r_b1 := r_b1.on (KT.same s_d1)
      replace r_f0 := r_f0.on (KT.same s_d1)
      replace r_f1 := r_f1.on (KT.same s_d1)
      replace r_nd := r_nd.on (KT.same s_d1)
      replace r_g0 := r_g0.on (KT.same s_d1)
      replace r_rg := r_rg.on (KT.same s_d1)
      replace hbp := (KT.same s_d1).sqt hbp
      replace hbx := hbx.on (KT.same s_d1)
      replace q_m1 := (KT.same s_d1).sqt q_m1
      replace q_en := (KT.same s_d1).sqt q_en
      replace r_en := r_en.on (KT.same s_d1)
      replace r_c0 := r_c0.on (KT.same s_d1)
      replace r_c1 := r_c1.on (KT.same s_d1)
      replace r_st1 := r_st1.on (KT.same s_d1)
      replace r_d0 := r_d0.on (KT.same s_d1)
      replace S := S.sm s_d1
      clear h_d1
      clear s_d1
      generalize (upd Hq38 d1 (.tup [.str "c", .int 9, .ref d0])) = Hq39 at hB r_a0 r_a1 r_a2 r_a3 r_b0 r_b1 r_f0 r_f1 r_nd r_g0 r_rg hbp hbx q_m1 q_en r_en r_c0 r_c1 r_st1 r_d0 r_d1 S ⊢
      refine ⟨_, rfl, (show 2 ≤ sizeLine by decide), fun i0 h_i0 => ?_⟩
      have s_i0 : Sm Hq39 (upd Hq39 i0 (.tup [.str "int", .int 0])) := Sm.new h_i0
      have r_i0 : Rp K (upd Hq39 i0 (.tup [.str "int", .int 0])) (.ref i0) (.tuple _) := Rp.mk upd_same (RpAll.on (.cons sok (.cons (.int _) .nil)) (KT.upd_new h_i0))
      replace hB := hB.keep fun a o e _ => s_i0 a o e
      replace r_a0 := r_a0.on (KT.same s_i0)
      replace r_a1 := r_a1.on (KT.same s_i0)
      replace r_a2 := r_a2.on (KT.same s_i0)
      replace r_a3 := r_a3.on (KT.same s_i0)
      replace r_b0 := r_b0.on (KT.same s_i0)
      replace r_b1 := r_b1.on (KT.same s_i0)
      replace r_f0 := r_f0.on (KT.same s_i0)
      replace r_f1 := r_f1.on (KT.same s_i0)
      replace r_nd := r_nd.on (KT.same s_i0)
      replace r_g0 := r_g0.on (KT.same s_i0)
      replace r_rg := r_rg.on (KT.same s_i0)
      replace hbp := (KT.same s_i0).sqt hbp
      replace hbx := hbx.on (KT.same s_i0)
      replace q_m1 := (KT.same s_i0).sqt q_m1
      replace q_en := (KT.same s_i0).sqt q_en
      replace r_en := r_en.on (KT.same s_i0)
      replace r_c0 := r_c0.on (KT.same s_i0)
      replace r_c1 := r_c1.on (KT.same s_i0)
      replace r_st1 := r_st1.on (KT.same s_i0)
      replace r_d0 := r_d0.on (KT.same s_i0)
      replace r_d1 := r_d1.on (KT.same s_i0)
      replace S := S.sm s_i0
      clear h_i0
      clear s_i0
      generalize (upd Hq39 i0 (.tup [.str "int", .int 0])) = Hq40 at hB r_a0 r_a1 r_a2 r_a3 r_b0 r_b1 r_f0 r_f1 r_nd r_g0 r_rg hbp hbx q_m1 q_en r_en r_c0 r_c1 r_st1 r_d0 r_d1 r_i0 S ⊢
      refine ⟨(show 4 ≤ sizeLine by decide), fun i1 h_i1 => ?_⟩
      have s_i1 : Sm Hq40 (upd Hq40 i1 (.tup [.str "con", .int 0, .str "R", .ref i0])) := Sm.new h_i1
      have r_i1 : Rp K (upd Hq40 i1 (.tup [.str "con", .int 0, .str "R", .ref i0])) (.ref i1) (.tuple _) := Rp.mk upd_same (RpAll.on (.cons sok (.cons (.int _) (.cons sok (.cons r_i0 .nil)))) (KT.upd_new h_i1))
      replace hB := hB.keep fun a o e _ => s_i1 a o e
      replace r_a0 := r_a0.on (KT.same s_i1)
      replace r_a1 := r_a1.on (KT.same s_i1)
      replace r_a2 := r_a2.on (KT.same s_i1)
      replace r_a3 := r_a3.on (KT.same s_i1)
      replace r_b0 := r_b0.on (KT.same s_i1)
      replace r_b1 := r_b1.on (KT.same s_i1)
      replace r_f0 := r_f0.on (KT.same s_i1)
      replace r_f1 := r_f1.on (KT.same s_i1)
      replace r_nd := r_nd.on (KT.same s_i1)
      replace r_g0 := r_g0.on (KT.same s_i1)
      replace r_rg := r_rg.on (KT.same s_i1)
      replace hbp := (KT.same s_i1).sqt hbp
      replace hbx := hbx.on (KT.same s_i1)
      replace q_m1 := (KT.same s_i1).sqt q_m1
      replace q_en := (KT.same s_i1).sqt q_en
      replace r_en := r_en.on (KT.same s_i1)
      replace r_c0 := r_c0.on (KT.same s_i1)
      replace r_c1 := r_c1.on (KT.same s_i1)
      replace r_st1 := r_st1.on (KT.same s_i1)
      replace r_d0 := r_d0.on (KT.same s_i1)
      replace r_d1 := r_d1.on (KT.same s_i1)
      replace r_i0 := r_i0.on (KT.same s_i1)
      replace S := S.sm s_i1
      clear h_i1
      clear s_i1
      generalize (upd Hq40 i1 (.tup [.str "con", .int 0, .str "R", .ref i0])) = Hq41 at hB r_a0 r_a1 r_a2 r_a3 r_b0 r_b1 r_f0 r_f1 r_nd r_g0 r_rg hbp hbx q_m1 q_en r_en r_c0 r_c1 r_st1 r_d0 r_d1 r_i0 r_i1 S ⊢
      refine ⟨(show 1 ≤ sizeLine by decide), fun st2 h_st2 => ?_⟩
      have s_st2 : Sm Hq41 (upd Hq41 st2 (.tup [.ref i1])) := Sm.new h_st2
      have r_st2 : Rp K (upd Hq41 st2 (.tup [.ref i1])) (.ref st2) (.tuple _) := Rp.mk upd_same (RpAll.on (.cons r_i1 .nil) (KT.upd_new h_st2))
      replace hB := hB.keep fun a o e _ => s_st2 a o e
      replace r_a0 := r_a0.on (KT.same s_st2)
      replace r_a1 := r_a1.on (KT.same s_st2)
      replace r_a2 := r_a2.on (KT.same s_st2)
      replace r_a3 := r_a3.on (KT.same s_st2)
      replace r_b0 := r_b0.on (KT.same s_st2)
      replace r_b1 := r_b1.on (KT.same s_st2)
      replace r_f0 := r_f0.on (KT.same s_st2)
      replace r_f1 := r_f1.on (KT.same s_st2)
      replace r_nd := r_nd.on (KT.same s_st2)
      replace r_g0 := r_g0.on (KT.same s_st2)
      replace r_rg := r_rg.on (KT.same s_st2)
      replace hbp := (KT.same s_st2).sqt hbp
      replace hbx := hbx.on (KT.same s_st2)
      replace q_m1 := (KT.same s_st2).sqt q_m1
      replace q_en := (KT.same s_st2).sqt q_en
      replace r_en := r_en.on (KT.same s_st2)
      replace r_c0 := r_c0.on (KT.same s_st2)
      replace r_c1 := r_c1.on (KT.same s_st2)
      replace r_st1 := r_st1.on (KT.same s_st2)
      replace r_d0 := r_d0.on (KT.same s_st2)
      replace r_d1 := r_d1.on (KT.same s_st2)
      replace r_i0 := r_i0.on (KT.same s_st2)
      replace r_i1 := r_i1.on (KT.same s_st2)
      replace S := S.sm s_st2
      clear h_st2
      clear s_st2
      generalize (upd Hq41 st2 (.tup [.ref i1])) = Hq42 at hB r_a0 r_a1 r_a2 r_a3 r_b0 r_b1 r_f0 r_f1 r_nd r_g0 r_rg hbp hbx q_m1 q_en r_en r_c0 r_c1 r_st1 r_d0 r_d1 r_i0 r_i1 r_st2 S ⊢
      refine ⟨arK 0, .ref en, .ref d1, .ref rg, .ref st2, 4, esR, [.con1 0 "R" (.int 0)], .c 9 [], ring, rfl, by decide, ⟨esR_env _ (by simp [Vl.okas, Vl.oka]), r_en, by simpa [Vl.ds, Vl.d] using r_st2⟩, by simpa [Sh.d, Sh.ds] using r_d1, by simp [Sh.fit, Sh.fits, arK], by simpa [Vl.d, ring] using r_rg, by simp [ring, Vl.oka], fun H7 s7 => ?_⟩
      rw [show (4 : Int).toNat = 4 from rfl, ring_no]
      replace hB := hB.keep fun a o e _ => s7 a o e
      replace r_a0 := r_a0.on (KT.same s7)
      replace r_a1 := r_a1.on (KT.same s7)
      replace r_a2 := r_a2.on (KT.same s7)
      replace r_a3 := r_a3.on (KT.same s7)
      replace r_b0 := r_b0.on (KT.same s7)
      replace r_b1 := r_b1.on (KT.same s7)
      replace r_f0 := r_f0.on (KT.same s7)
      replace r_f1 := r_f1.on (KT.same s7)
      replace r_nd := r_nd.on (KT.same s7)
      replace r_g0 := r_g0.on (KT.same s7)
      replace r_rg := r_rg.on (KT.same s7)
      replace hbp := (KT.same s7).sqt hbp
      replace hbx := hbx.on (KT.same s7)
      replace q_m1 := (KT.same s7).sqt q_m1
      replace q_en := (KT.same s7).sqt q_en
      replace r_en := r_en.on (KT.same s7)
      replace r_c0 := r_c0.on (KT.same s7)
      replace r_c1 := r_c1.on (KT.same s7)
      replace r_st1 := r_st1.on (KT.same s7)
      replace r_d0 := r_d0.on (KT.same s7)
      replace r_d1 := r_d1.on (KT.same s7)
      replace r_i0 := r_i0.on (KT.same s7)
      replace r_i1 := r_i1.on (KT.same s7)
      replace r_st2 := r_st2.on (KT.same s7)
      replace S := S.sm s7
      exact ⟨false, false, rfl, rfl, k _ S hB⟩
end
end K88

set_option Elab.async false
set_option maxRecDepth 100000
set_option linter.all false
set_option pp.maxSteps 400
set_option maxHeartbeats 40000000
namespace K88
open PySem L2 GD AG
section
variable {P : Program} {w : World} {K : PySem.W.Frag} {mg : Str → Option Value} {base : Heap} {A : Adr}
theorem grow_oka {v : Vl} (h : v.oka) : ∀ k, (grow v k).oka
  | 0 => h
  | k + 1 => by simp only [grow, Vl.oka]; exact grow_oka h k
theorem ok_grown (T : Txt K mg A) : FnOk P w K mg base CX0 194 A.f__law_grown A.d__law_grown ["box"] spDone := by
  have G__law_draw : FnOk P w K mg base CX0 2 A.f__law_draw A.d__law_draw _ _ := ok__law_draw T
  have G_agrees : FnOk P w K mg base CX0 192 A.f_agrees A.d_agrees _ _ := ok_agr T 60
  refine T.F__law_grown.ok (k := 193) sc__law_grown (fun vs H Q E h => ?_) (fun cdv Ar outer s H vs Q E hr h => ?_)
  · obtain ⟨b, c, rfl, _⟩ := h
    rfl
  · obtain ⟨b, c, rfl, hB, k⟩ := h
    refine ⟨_, (pss_cons (ps_set (i := 1) sc__law_grown.nd rfl (Or.inl rfl) (pe_tup (pa_cons pe_str (pa_cons pe_int pa_nil)))) (pss_cons (ps_set (i := 2) sc__law_grown.nd rfl (Or.inl rfl) (pe_tup (pa_cons pe_str (pa_cons pe_int (pa_cons (pe_tup (pa_cons (pv 1) pa_nil)) pa_nil))))) (pss_cons (ps_set (i := 3) sc__law_grown.nd rfl (Or.inl rfl) (pe_tup (pa_cons (pe_tup (pa_cons pe_str (pa_cons pe_bl pa_nil))) (pa_cons (pe_tup (pa_cons pe_str (pa_cons pe_bl pa_nil))) pa_nil)))) (pss_cons (ps_set (i := 4) sc__law_grown.nd rfl (Or.inl rfl) (pe_tup (pa_cons pe_str (pa_cons pe_str (pa_cons pe_int (pa_cons (pe_tup (pa_cons pe_str (pa_cons pe_int (pa_cons (pe_tup (pa_cons (pe_tup (pa_cons pe_str (pa_cons (pe_tup (pa_cons (pv 1) (pa_cons (pv 1) pa_nil))) pa_nil))) pa_nil)) pa_nil)))) (pa_cons (pv 2) (pa_cons pe_int (pa_cons (pv 3) pa_nil))))))))) (pss_cons (ps_set (i := 5) sc__law_grown.nd rfl (Or.inl rfl) (pe_op op_catT (pe_ix (ixt (K := K) rfl) (pe_glob (v := .ref A.c_BASIS) rfl T.g_BASIS rfl) pe_int (fun _ _ => rfl)) (pe_tup (pa_cons (pe_tup (pa_cons pe_str (pa_cons pe_str (pa_cons pe_int (pa_cons pe_non (pa_cons (pv 2) (pa_cons pe_int (pa_cons (pv 3) pa_nil)))))))) (pa_cons (pv 4) pa_nil))))) (pss_cons (ps_set (i := 6) sc__law_grown.nd rfl (Or.inl rfl) (pe_op op_add pe_int (pe_call G__law_draw (hr.mono (by first | decide | omega)) rfl T.g__law_draw T.F__law_draw.kp T.b__law_draw .nil pass0 (pa_cons (pv 0) (pa_cons pe_int pa_nil))))) (pss_cons (ps_set (i := 7) sc__law_grown.nd rfl (Or.inl rfl) (pe_tup (pa_cons pe_str (pa_cons pe_int (pa_cons pe_str (pa_cons pe_non pa_nil)))))) (pss_cons (ps_set (i := 8) sc__law_grown.nd rfl (Or.inl rfl) (pe_tup (pa_cons pe_str (pa_cons pe_int pa_nil)))) (pss_cons (ps_for PassesOwn.never rfl (pi_range1 rfl T.n_range (pa_cons (pv 6) pa_nil)) (pg_name (i := 9) sc__law_grown.nd rfl (Or.inl rfl)) (pss_cons (ps_set (i := 7) sc__law_grown.nd rfl (Or.inl rfl) (pe_tup (pa_cons pe_str (pa_cons pe_int (pa_cons pe_str (pa_cons (pv 7) pa_nil)))))) (pss_one (ps_set (i := 8) sc__law_grown.nd rfl (Or.inl rfl) (pe_tup (pa_cons pe_str (pa_cons pe_int (pa_cons pe_str (pa_cons (pv 8) pa_nil))))))))) (pss_cons (ps_set (i := 10) sc__law_grown.nd rfl (Or.inl rfl) (pe_call G__law_draw (hr.mono (by first | decide | omega)) rfl T.g__law_draw T.F__law_draw.kp T.b__law_draw .nil pass0 (pa_cons (pv 0) (pa_cons pe_int pa_nil)))) (pss_cons (ps_set (i := 11) sc__law_grown.nd rfl (Or.inl rfl) (pe_tup (pa_cons pe_str (pa_cons pe_int (pa_cons (pe_tup (pa_cons (pe_tup (pa_cons pe_str (pa_cons pe_int (pa_cons (pe_tup pa_nil) pa_nil)))) pa_nil)) pa_nil))))) (pss_cons (ps_if (PW.pt (pw_or (pt_cmpR op_notBl (pe_call G_agrees (hr.mono (by first | decide | omega)) rfl T.g_agrees T.F_agrees.kp T.b_agrees .nil pass0 (pa_cons (pv 5) (pa_cons (pv 11) (pa_cons (pv 7) (pa_cons (pe_tup pa_nil) (pa_cons pe_int pa_nil)))))) pe_bl (nomark _)) (pw_or1 (pt_cmpR op_notBl (pe_call G_agrees (hr.mono (by first | decide | omega)) rfl T.g_agrees T.F_agrees.kp T.b_agrees .nil pass0 (pa_cons (pv 5) (pa_cons (pv 11) (pa_cons (pv 7) (pa_cons (pe_tup pa_nil) (pa_cons (pv 10) pa_nil)))))) pe_bl (nomark _))))) (pss_one (ps_ret pe_bl)) pss_nil) (pss_cons (ps_set (i := 12) sc__law_grown.nd rfl (Or.inl rfl) (pe_call G_agrees (hr.mono (by first | decide | omega)) rfl T.g_agrees T.F_agrees.kp T.b_agrees .nil pass0 (pa_cons (pv 5) (pa_cons (pv 11) (pa_cons (pv 8) (pa_cons (pe_tup pa_nil) (pa_cons (pv 10) pa_nil))))))) (pss_one (ps_ret (pe_and (pe_callB call_isi (by rfl) T.n_isinstance (by decide +kernel) (pa_cons (pv 12) (pa_cons (pe_bltn (v := .ty "bool") (by rfl) T.n_bool (by decide +kernel) rfl) pa_nil))) (pe_one (pe_cmpR op_eq (pv 12) (pe_cmpR op_le (pv 10) (pv 6) (nomark _)) (nomark _))))))))))))))))))), ?_⟩
    have S : Bs b c H H := Bs.refl
    refine ⟨(show 2 ≤ sizeLine by decide), fun fi h_fi => ?_⟩
    have s_fi : Sm H (upd H fi (.tup [.str "v", .int 0])) := Sm.new h_fi
    have r_fi : Rp K (upd H fi (.tup [.str "v", .int 0])) (.ref fi) (.tuple _) := Rp.mk upd_same (RpAll.on (.cons sok (.cons (.int _) .nil)) (KT.upd_new h_fi))
    replace hB := hB.keep fun a o e _ => s_fi a o e
    replace S := S.sm s_fi
    clear h_fi
    clear s_fi
    generalize (upd H fi (.tup [.str "v", .int 0])) = Hq1 at hB r_fi S ⊢
    refine ⟨_, rfl, (show 1 ≤ sizeLine by decide), fun o1 h_o1 => ?_⟩
    have s_o1 : Sm Hq1 (upd Hq1 o1 (.tup [.ref fi])) := Sm.new h_o1
    have r_o1 : Rp K (upd Hq1 o1 (.tup [.ref fi])) (.ref o1) (.tuple _) := Rp.mk upd_same (RpAll.on (.cons r_fi .nil) (KT.upd_new h_o1))
    replace hB := hB.keep fun a o e _ => s_o1 a o e
    replace r_fi := r_fi.on (KT.same s_o1)
    replace S := S.sm s_o1
    clear h_o1
    clear s_o1
    generalize (upd Hq1 o1 (.tup [.ref fi])) = Hq2 at hB r_fi r_o1 S ⊢
    refine ⟨(show 3 ≤ sizeLine by decide), fun ow h_ow => ?_⟩
    have s_ow : Sm Hq2 (upd Hq2 ow (.tup [.str "c", .int 9, .ref o1])) := Sm.new h_ow
    have r_ow : Rp K (upd Hq2 ow (.tup [.str "c", .int 9, .ref o1])) (.ref ow) (.tuple _) := Rp.mk upd_same (RpAll.on (.cons sok (.cons (.int _) (.cons r_o1 .nil))) (KT.upd_new h_ow))
    replace hB := hB.keep fun a o e _ => s_ow a o e
    replace r_fi := r_fi.on (KT.same s_ow)
    replace r_o1 := r_o1.on (KT.same s_ow)
    replace S := S.sm s_ow
    clear h_ow
    clear s_ow
    generalize (upd Hq2 ow (.tup [.str "c", .int 9, .ref o1])) = Hq3 at hB r_fi r_o1 r_ow S ⊢
    refine ⟨(show 2 ≤ sizeLine by decide), fun f0 h_f0 => ?_⟩
    have s_f0 : Sm Hq3 (upd Hq3 f0 (.tup [.str "N", .bl false])) := Sm.new h_f0
    have r_f0 : Rp K (upd Hq3 f0 (.tup [.str "N", .bl false])) (.ref f0) (.tuple _) := Rp.mk upd_same (RpAll.on (.cons sok (.cons (.bl _) .nil)) (KT.upd_new h_f0))
    replace hB := hB.keep fun a o e _ => s_f0 a o e
    replace r_fi := r_fi.on (KT.same s_f0)
    replace r_o1 := r_o1.on (KT.same s_f0)
    replace r_ow := r_ow.on (KT.same s_f0)
    replace S := S.sm s_f0
    clear h_f0
    clear s_f0
    generalize (upd Hq3 f0 (.tup [.str "N", .bl false])) = Hq4 at hB r_fi r_o1 r_ow r_f0 S ⊢
    refine ⟨(show 2 ≤ sizeLine by decide), fun f1 h_f1 => ?_⟩
    have s_f1 : Sm Hq4 (upd Hq4 f1 (.tup [.str "A", .bl true])) := Sm.new h_f1
    have r_f1 : Rp K (upd Hq4 f1 (.tup [.str "A", .bl true])) (.ref f1) (.tuple _) := Rp.mk upd_same (RpAll.on (.cons sok (.cons (.bl _) .nil)) (KT.upd_new h_f1))
    replace hB := hB.keep fun a o e _ => s_f1 a o e
    replace r_fi := r_fi.on (KT.same s_f1)
    replace r_o1 := r_o1.on (KT.same s_f1)
    replace r_ow := r_ow.on (KT.same s_f1)
    replace r_f0 := r_f0.on (KT.same s_f1)
    replace S := S.sm s_f1
    clear h_f1
    clear s_f1
    generalize (upd Hq4 f1 (.tup [.str "A", .bl true])) = Hq5 at hB r_fi r_o1 r_ow r_f0 r_f1 S ⊢
    refine ⟨(show 2 ≤ sizeLine by decide), fun fm h_fm => ?_⟩
    have s_fm : Sm Hq5 (upd Hq5 fm (.tup [.ref f0, .ref f1])) := Sm.new h_fm
    have r_fm : Rp K (upd Hq5 fm (.tup [.ref f0, .ref f1])) (.ref fm) (.tuple _) := Rp.mk upd_same (RpAll.on (.cons r_f0 (.cons r_f1 .nil)) (KT.upd_new h_fm))
    replace hB := hB.keep fun a o e _ => s_fm a o e
    replace r_fi := r_fi.on (KT.same s_fm)
    replace r_o1 := r_o1.on (KT.same s_fm)
    replace r_ow := r_ow.on (KT.same s_fm)
    replace r_f0 := r_f0.on (KT.same s_fm)
    replace r_f1 := r_f1.on (KT.same s_fm)
    replace S := S.sm s_fm
    clear h_fm
    clear s_fm
    generalize (upd Hq5 fm (.tup [.ref f0, .ref f1])) = Hq6 at hB r_fi r_o1 r_ow r_f0 r_f1 r_fm S ⊢
    refine ⟨_, rfl, _, rfl, (show 2 ≤ sizeLine by decide), fun a0 h_a0 => ?_⟩
    have s_a0 : Sm Hq6 (upd Hq6 a0 (.tup [.ref fi, .ref fi])) := Sm.new h_a0
    have r_a0 : Rp K (upd Hq6 a0 (.tup [.ref fi, .ref fi])) (.ref a0) (.tuple _) := Rp.mk upd_same (RpAll.on (.cons r_fi (.cons r_fi .nil)) (KT.upd_new h_a0))
    replace hB := hB.keep fun a o e _ => s_a0 a o e
    replace r_fi := r_fi.on (KT.same s_a0)
    replace r_o1 := r_o1.on (KT.same s_a0)
    replace r_ow := r_ow.on (KT.same s_a0)
    replace r_f0 := r_f0.on (KT.same s_a0)
    replace r_f1 := r_f1.on (KT.same s_a0)
    replace r_fm := r_fm.on (KT.same s_a0)
    replace S := S.sm s_a0
    clear h_a0
    clear s_a0
    generalize (upd Hq6 a0 (.tup [.ref fi, .ref fi])) = Hq7 at hB r_fi r_o1 r_ow r_f0 r_f1 r_fm r_a0 S ⊢
    refine ⟨(show 2 ≤ sizeLine by decide), fun a1 h_a1 => ?_⟩
    have s_a1 : Sm Hq7 (upd Hq7 a1 (.tup [.str "t", .ref a0])) := Sm.new h_a1
    have r_a1 : Rp K (upd Hq7 a1 (.tup [.str "t", .ref a0])) (.ref a1) (.tuple _) := Rp.mk upd_same (RpAll.on (.cons sok (.cons r_a0 .nil)) (KT.upd_new h_a1))
    replace hB := hB.keep fun a o e _ => s_a1 a o e
    replace r_fi := r_fi.on (KT.same s_a1)
    replace r_o1 := r_o1.on (KT.same s_a1)
    replace r_ow := r_ow.on (KT.same s_a1)
    replace r_f0 := r_f0.on (KT.same s_a1)
    replace r_f1 := r_f1.on (KT.same s_a1)
    replace r_fm := r_fm.on (KT.same s_a1)
    replace r_a0 := r_a0.on (KT.same s_a1)
    replace S := S.sm s_a1
    clear h_a1
    clear s_a1
    generalize (upd Hq7 a1 (.tup [.str "t", .ref a0])) = Hq8 at hB r_fi r_o1 r_ow r_f0 r_f1 r_fm r_a0 r_a1 S ⊢
    refine ⟨(show 1 ≤ sizeLine by decide), fun a2 h_a2 => ?_⟩
    have s_a2 : Sm Hq8 (upd Hq8 a2 (.tup [.ref a1])) := Sm.new h_a2
    have r_a2 : Rp K (upd Hq8 a2 (.tup [.ref a1])) (.ref a2) (.tuple _) := Rp.mk upd_same (RpAll.on (.cons r_a1 .nil) (KT.upd_new h_a2))
    replace hB := hB.keep fun a o e _ => s_a2 a o e
    replace r_fi := r_fi.on (KT.same s_a2)
    replace r_o1 := r_o1.on (KT.same s_a2)
    replace r_ow := r_ow.on (KT.same s_a2)
    replace r_f0 := r_f0.on (KT.same s_a2)
    replace r_f1 := r_f1.on (KT.same s_a2)
    replace r_fm := r_fm.on (KT.same s_a2)
    replace r_a0 := r_a0.on (KT.same s_a2)
    replace r_a1 := r_a1.on (KT.same s_a2)
    replace S := S.sm s_a2
    clear h_a2
    clear s_a2
    generalize (upd Hq8 a2 (.tup [.ref a1])) = Hq9 at hB r_fi r_o1 r_ow r_f0 r_f1 r_fm r_a0 r_a1 r_a2 S ⊢
    refine ⟨(show 3 ≤ sizeLine by decide), fun a3 h_a3 => ?_⟩
    have s_a3 : Sm Hq9 (upd Hq9 a3 (.tup [.str "c", .int 9, .ref a2])) := Sm.new h_a3
    have r_a3 : Rp K (upd Hq9 a3 (.tup [.str "c", .int 9, .ref a2])) (.ref a3) (.tuple _) := Rp.mk upd_same (RpAll.on (.cons sok (.cons (.int _) (.cons r_a2 .nil))) (KT.upd_new h_a3))
    replace hB := hB.keep fun a o e _ => s_a3 a o e
    replace r_fi := r_fi.on (KT.same s_a3)
    replace r_o1 := r_o1.on (KT.same s_a3)
    replace r_ow := r_ow.on (KT.same s_a3)
    replace r_f0 := r_f0.on (KT.same s_a3)
    replace r_f1 := r_f1.on (KT.same s_a3)
    replace r_fm := r_fm.on (KT.same s_a3)
    replace r_a0 := r_a0.on (KT.same s_a3)
    replace r_a1 := r_a1.on (KT.same s_a3)
    replace r_a2 := r_a2.on (KT.same s_a3)
    replace S := S.sm s_a3
    clear h_a3
    clear s_a3
    generalize (upd Hq9 a3 (.tup [.str "c", .int 9, .ref a2])) = Hq10 at hB r_fi r_o1 r_ow r_f0 r_f1 r_fm r_a0 r_a1 r_a2 r_a3 S ⊢
    refine ⟨_, rfl, _, rfl, (show 7 ≤ sizeLine by decide), fun mo h_mo => ?_⟩
    have s_mo : Sm Hq10 (upd Hq10 mo (.tup [.str "con", .str "A", .int 1, .ref a3, .ref ow, .int 1, .ref fm])) := Sm.new h_mo
    have r_mo : Rp K (upd Hq10 mo (.tup [.str "con", .str "A", .int 1, .ref a3, .ref ow, .int 1, .ref fm])) (.ref mo) (.tuple _) := Rp.mk upd_same (RpAll.on (.cons sok (.cons sok (.cons (.int _) (.cons r_a3 (.cons r_ow (.cons (.int _) (.cons r_fm .nil))))))) (KT.upd_new h_mo))
    replace hB := hB.keep fun a o e _ => s_mo a o e
    replace r_fi := r_fi.on (KT.same s_mo)
    replace r_o1 := r_o1.on (KT.same s_mo)
    replace r_ow := r_ow.on (KT.same s_mo)
    replace r_f0 := r_f0.on (KT.same s_mo)
    replace r_f1 := r_f1.on (KT.same s_mo)
    replace r_fm := r_fm.on (KT.same s_mo)
    replace r_a0 := r_a0.on (KT.same s_mo)
    replace r_a1 := r_a1.on (KT.same s_mo)
    replace r_a2 := r_a2.on (KT.same s_mo)
    replace r_a3 := r_a3.on (KT.same s_mo)
    replace S := S.sm s_mo
    clear h_mo
    clear s_mo
    generalize (upd Hq10 mo (.tup [.str "con", .str "A", .int 1, .ref a3, .ref ow, .int 1, .ref fm])) = Hq11 at hB r_fi r_o1 r_ow r_f0 r_f1 r_fm r_a0 r_a1 r_a2 r_a3 r_mo S ⊢
    obtain ⟨bp, bxs, bq, hBas, hbp, hbx, bne, bln⟩ := basis_at T Hq11
    refine ⟨A.c_BASIS, _, _, _, rfl, rfl, hBas, at0, _, rfl, _, rfl, (show 7 ≤ sizeLine by decide), fun nd h_nd => ?_⟩
    have s_nd : Sm Hq11 (upd Hq11 nd (.tup [.str "con", .str "N", .int 1, .non, .ref ow, .int 0, .ref fm])) := Sm.new h_nd
    have r_nd : Rp K (upd Hq11 nd (.tup [.str "con", .str "N", .int 1, .non, .ref ow, .int 0, .ref fm])) (.ref nd) (.tuple _) := Rp.mk upd_same (RpAll.on (.cons sok (.cons sok (.cons (.int _) (.cons .non (.cons r_ow (.cons (.int _) (.cons r_fm .nil))))))) (KT.upd_new h_nd))
    replace hB := hB.keep fun a o e _ => s_nd a o e
    replace r_fi := r_fi.on (KT.same s_nd)
    replace r_o1 := r_o1.on (KT.same s_nd)
    replace r_ow := r_ow.on (KT.same s_nd)
    replace r_f0 := r_f0.on (KT.same s_nd)
    replace r_f1 := r_f1.on (KT.same s_nd)
    replace r_fm := r_fm.on (KT.same s_nd)
    replace r_a0 := r_a0.on (KT.same s_nd)
    replace r_a1 := r_a1.on (KT.same s_nd)
    replace r_a2 := r_a2.on (KT.same s_nd)
    replace r_a3 := r_a3.on (KT.same s_nd)
    replace r_mo := r_mo.on (KT.same s_nd)
    replace hbp := (KT.same s_nd).sqt hbp
    replace hbx := hbx.on (KT.same s_nd)
    replace S := S.sm s_nd
    clear h_nd
    clear s_nd
    generalize (upd Hq11 nd (.tup [.str "con", .str "N", .int 1, .non, .ref ow, .int 0, .ref fm])) = Hq12 at hB r_fi r_o1 r_ow r_f0 r_f1 r_fm r_a0 r_a1 r_a2 r_a3 r_mo hbp hbx r_nd S ⊢
    refine ⟨_, rfl, (show 2 ≤ sizeLine by decide), fun m1 h_m1 => ?_⟩
    have s_m1 : Sm Hq12 (upd Hq12 m1 (.tup [.ref nd, .ref mo])) := Sm.new h_m1
    have q_m1 : SqT K (upd Hq12 m1 (.tup [.ref nd, .ref mo])) m1 [.ref nd, .ref mo] := .inl (Rd.of upd_same)
    replace hB := hB.keep fun a o e _ => s_m1 a o e
    replace r_fi := r_fi.on (KT.same s_m1)
    replace r_o1 := r_o1.on (KT.same s_m1)
    replace r_ow := r_ow.on (KT.same s_m1)
    replace r_f0 := r_f0.on (KT.same s_m1)
    replace r_f1 := r_f1.on (KT.same s_m1)
    replace r_fm := r_fm.on (KT.same s_m1)
    replace r_a0 := r_a0.on (KT.same s_m1)
    replace r_a1 := r_a1.on (KT.same s_m1)
    replace r_a2 := r_a2.on (KT.same s_m1)
    replace r_a3 := r_a3.on (KT.same s_m1)
    replace r_mo := r_mo.on (KT.same s_m1)
    replace hbp := (KT.same s_m1).sqt hbp
    replace hbx := hbx.on (KT.same s_m1)
    replace r_nd := r_nd.on (KT.same s_m1)
    replace S := S.sm s_m1
    clear h_m1
    clear s_m1
    generalize (upd Hq12 m1 (.tup [.ref nd, .ref mo])) = Hq13 at hB r_fi r_o1 r_ow r_f0 r_f1 r_fm r_a0 r_a1 r_a2 r_a3 r_mo hbp hbx r_nd q_m1 S ⊢
    refine ⟨bp, m1, bxs, [.ref nd, .ref mo], rfl, rfl, hbp, q_m1, bne, (by rw [bln]; exact small_le (show 39 + 2 ≤ 100000 by decide)), (fun z => nomatch z), fun _ en h_en => ?_⟩
    have s_en : Sm Hq13 (upd Hq13 en (.tup (bxs ++ [.ref nd, .ref mo]))) := Sm.new h_en
    have q_en : SqT K (upd Hq13 en (.tup (bxs ++ [.ref nd, .ref mo]))) en (bxs ++ [.ref nd, .ref mo]) := .inl (Rd.of upd_same)
    replace hB := hB.keep fun a o e _ => s_en a o e
    replace r_fi := r_fi.on (KT.same s_en)
    replace r_o1 := r_o1.on (KT.same s_en)
    replace r_ow := r_ow.on (KT.same s_en)
    replace r_f0 := r_f0.on (KT.same s_en)
    replace r_f1 := r_f1.on (KT.same s_en)
    replace r_fm := r_fm.on (KT.same s_en)
    replace r_a0 := r_a0.on (KT.same s_en)
    replace r_a1 := r_a1.on (KT.same s_en)
    replace r_a2 := r_a2.on (KT.same s_en)
    replace r_a3 := r_a3.on (KT.same s_en)
    replace r_mo := r_mo.on (KT.same s_en)
    replace hbp := (KT.same s_en).sqt hbp
    replace hbx := hbx.on (KT.same s_en)
    replace r_nd := r_nd.on (KT.same s_en)
    replace q_m1 := (KT.same s_en).sqt q_m1
    replace S := S.sm s_en
    clear h_en
    clear s_en
    generalize (upd Hq13 en (.tup (bxs ++ [.ref nd, .ref mo]))) = Hq14 at hB r_fi r_o1 r_ow r_f0 r_f1 r_fm r_a0 r_a1 r_a2 r_a3 r_mo hbp hbx r_nd q_m1 q_en S ⊢
    have r_en : Rp K Hq14 (.ref en) (.tuple (Ent.ds esG)) := by
      have e1 : Ent.ds esG = Ent.ds basisE ++ [rowN.d, rowD.d] := by
        unfold esG
        rw [eds_map, List.map_append, ← eds_map]
        simp [Ent.d]
      rw [e1]
      refine .tup q_en (hbx.app (.cons ?_ (.cons ?_ .nil)))
      · exact r_nd
      · exact r_mo
    clear r_fi r_o1 r_ow r_f0 r_f1 r_fm r_a0 r_a1 r_a2 r_a3 r_mo r_nd q_m1 q_en hbx hbp hBas
    refine ⟨_, rfl, b, c, 59, rfl, by decide, by decide, hB, fun mm H1 m0 m1' hx1 hB1 => ?_⟩
    replace r_en := r_en.on (hB.kt hx1)
    replace S := S.bx hx1
    replace hB := hB1
    refine ⟨_, _, rfl, rfl, ?_⟩
    refine ⟨(show 4 ≤ sizeLine by decide), fun ri h_ri => ?_⟩
    have s_ri : Sm H1 (upd H1 ri (.tup [.str "con", .int 0, .str "N", .non])) := Sm.new h_ri
    have r_ri : Rp K (upd H1 ri (.tup [.str "con", .int 0, .str "N", .non])) (.ref ri) (.tuple _) := Rp.mk upd_same (RpAll.on (.cons sok (.cons (.int _) (.cons sok (.cons .non .nil)))) (KT.upd_new h_ri))
    replace hB := hB.keep fun a o e _ => s_ri a o e
    replace r_en := r_en.on (KT.same s_ri)
    replace S := S.sm s_ri
    clear h_ri
    clear s_ri
    generalize (upd H1 ri (.tup [.str "con", .int 0, .str "N", .non])) = Hq15 at hB r_en r_ri S ⊢
    refine ⟨(show 2 ≤ sizeLine by decide), fun wr h_wr => ?_⟩
    have s_wr : Sm Hq15 (upd Hq15 wr (.tup [.str "int", .int 0])) := Sm.new h_wr
    have r_wr : Rp K (upd Hq15 wr (.tup [.str "int", .int 0])) (.ref wr) (.tuple _) := Rp.mk upd_same (RpAll.on (.cons sok (.cons (.int _) .nil)) (KT.upd_new h_wr))
    replace hB := hB.keep fun a o e _ => s_wr a o e
    replace r_en := r_en.on (KT.same s_wr)
    replace r_ri := r_ri.on (KT.same s_wr)
    replace S := S.sm s_wr
    clear h_wr
    clear s_wr
    generalize (upd Hq15 wr (.tup [.str "int", .int 0])) = Hq16 at hB r_en r_ri r_wr S ⊢
    refine ⟨_, rfl, (1 + mm), rfl, by omega, by omega, for_range (lo := 0) (n := (1 + mm).toNat) (fun i σ' H' => ∃ (rx wx : Addr) (v9 : Option V), σ' = [some (.ref b), some (.ref fi), some (.ref ow), some (.ref fm), some (.ref mo), some (.ref en), some (.int (1 + mm)), some (.ref rx), some (.ref wx), v9, none, none, none] ∧ Bs b c H H' ∧ BoxAt H' b c ∧ Rp K H' (.ref en) (.tuple (Ent.ds esG)) ∧ Rp K H' (.ref rx) (grow (.con0 0 "N") i).d ∧ Rp K H' (.ref wx) (grow (.int 0) i).d) ?_ ?_ ?_⟩
    · exact ⟨ri, wr, none, rfl, S, hB, r_en, by simpa [grow, Vl.d] using r_ri, by simpa [grow, Vl.d] using r_wr⟩
    · clear r_ri r_wr S hB r_en
      rintro i σ' H2 hi ⟨rx, wx, v9, rfl, S, hB, r_en, r_r, r_w⟩
      refine ⟨_, rfl, (show 4 ≤ sizeLine by decide), fun a1 h_a1 => ?_⟩
      have s_a1 : Sm H2 (upd H2 a1 (.tup [.str "con", .int 1, .str "A", .ref rx])) := Sm.new h_a1
      have r_a1 : Rp K (upd H2 a1 (.tup [.str "con", .int 1, .str "A", .ref rx])) (.ref a1) (.tuple _) := Rp.mk upd_same (RpAll.on (.cons sok (.cons (.int _) (.cons sok (.cons r_r .nil)))) (KT.upd_new h_a1))
      replace hB := hB.keep fun a o e _ => s_a1 a o e
      replace r_en := r_en.on (KT.same s_a1)
      replace r_r := r_r.on (KT.same s_a1)
      replace r_w := r_w.on (KT.same s_a1)
      replace S := S.sm s_a1
      clear h_a1
      clear s_a1
      generalize (upd H2 a1 (.tup [.str "con", .int 1, .str "A", .ref rx])) = Hq17 at hB r_en r_r r_w r_a1 S ⊢
      refine ⟨_, rfl, (show 4 ≤ sizeLine by decide), fun a2 h_a2 => ?_⟩
      have s_a2 : Sm Hq17 (upd Hq17 a2 (.tup [.str "con", .int 1, .str "A", .ref wx])) := Sm.new h_a2
      have r_a2 : Rp K (upd Hq17 a2 (.tup [.str "con", .int 1, .str "A", .ref wx])) (.ref a2) (.tuple _) := Rp.mk upd_same (RpAll.on (.cons sok (.cons (.int _) (.cons sok (.cons r_w .nil)))) (KT.upd_new h_a2))
      replace hB := hB.keep fun a o e _ => s_a2 a o e
      replace r_en := r_en.on (KT.same s_a2)
      replace r_r := r_r.on (KT.same s_a2)
      replace r_w := r_w.on (KT.same s_a2)
      replace r_a1 := r_a1.on (KT.same s_a2)
      replace S := S.sm s_a2
      clear h_a2
      clear s_a2
      generalize (upd Hq17 a2 (.tup [.str "con", .int 1, .str "A", .ref wx])) = Hq18 at hB r_en r_r r_w r_a1 r_a2 S ⊢
      exact ⟨a1, a2, _, rfl, S, hB, r_en, by simpa [grow, Vl.d] using r_a1, by simpa [grow, Vl.d] using r_a2⟩
    · clear r_ri r_wr S hB r_en
      rintro σ' H2 ⟨rx, wx, v9, rfl, S, hB, r_en, r_r, r_w⟩
      refine ⟨_, rfl, b, c, 61, rfl, by decide, by decide, hB, fun d H3 d0 d1 hx3 hB3 => ?_⟩
      replace r_en := r_en.on (hB.kt hx3)
      replace r_r := r_r.on (hB.kt hx3)
      replace r_w := r_w.on (hB.kt hx3)
      replace S := S.bx hx3
      replace hB := hB3
      refine ⟨Nat.zero_le _, fun e0 h_e0 => ?_⟩
      have s_e0 : Sm H3 (upd H3 e0 (.tup [])) := Sm.new h_e0
      have r_e0 : Rp K (upd H3 e0 (.tup [])) (.ref e0) (.tuple _) := Rp.mk upd_same (RpAll.on (.nil) (KT.upd_new h_e0))
      replace hB := hB.keep fun a o e _ => s_e0 a o e
      replace r_en := r_en.on (KT.same s_e0)
      replace r_r := r_r.on (KT.same s_e0)
      replace r_w := r_w.on (KT.same s_e0)
      replace S := S.sm s_e0
      clear h_e0
      clear s_e0
      generalize (upd H3 e0 (.tup [])) = Hq19 at hB r_en r_r r_w r_e0 S ⊢
      refine ⟨(show 3 ≤ sizeLine by decide), fun e1 h_e1 => ?_⟩
      have s_e1 : Sm Hq19 (upd Hq19 e1 (.tup [.str "c", .int 0, .ref e0])) := Sm.new h_e1
      have r_e1 : Rp K (upd Hq19 e1 (.tup [.str "c", .int 0, .ref e0])) (.ref e1) (.tuple _) := Rp.mk upd_same (RpAll.on (.cons sok (.cons (.int _) (.cons r_e0 .nil))) (KT.upd_new h_e1))
      replace hB := hB.keep fun a o e _ => s_e1 a o e
      replace r_en := r_en.on (KT.same s_e1)
      replace r_r := r_r.on (KT.same s_e1)
      replace r_w := r_w.on (KT.same s_e1)
      replace r_e0 := r_e0.on (KT.same s_e1)
      replace S := S.sm s_e1
      clear h_e1
      clear s_e1
      generalize (upd Hq19 e1 (.tup [.str "c", .int 0, .ref e0])) = Hq20 at hB r_en r_r r_w r_e0 r_e1 S ⊢
      refine ⟨(show 1 ≤ sizeLine by decide), fun e2 h_e2 => ?_⟩
      have s_e2 : Sm Hq20 (upd Hq20 e2 (.tup [.ref e1])) := Sm.new h_e2
      have r_e2 : Rp K (upd Hq20 e2 (.tup [.ref e1])) (.ref e2) (.tuple _) := Rp.mk upd_same (RpAll.on (.cons r_e1 .nil) (KT.upd_new h_e2))
      replace hB := hB.keep fun a o e _ => s_e2 a o e
      replace r_en := r_en.on (KT.same s_e2)
      replace r_r := r_r.on (KT.same s_e2)
      replace r_w := r_w.on (KT.same s_e2)
      replace r_e0 := r_e0.on (KT.same s_e2)
      replace r_e1 := r_e1.on (KT.same s_e2)
      replace S := S.sm s_e2
      clear h_e2
      clear s_e2
      generalize (upd Hq20 e2 (.tup [.ref e1])) = Hq21 at hB r_en r_r r_w r_e0 r_e1 r_e2 S ⊢
      refine ⟨(show 3 ≤ sizeLine by decide), fun sx h_sx => ?_⟩
      have s_sx : Sm Hq21 (upd Hq21 sx (.tup [.str "c", .int 9, .ref e2])) := Sm.new h_sx
      have r_sx : Rp K (upd Hq21 sx (.tup [.str "c", .int 9, .ref e2])) (.ref sx) (.tuple _) := Rp.mk upd_same (RpAll.on (.cons sok (.cons (.int _) (.cons r_e2 .nil))) (KT.upd_new h_sx))
      replace hB := hB.keep fun a o e _ => s_sx a o e
      replace r_en := r_en.on (KT.same s_sx)
      replace r_r := r_r.on (KT.same s_sx)
      replace r_w := r_w.on (KT.same s_sx)
      replace r_e0 := r_e0.on (KT.same s_sx)
      replace r_e1 := r_e1.on (KT.same s_sx)
      replace r_e2 := r_e2.on (KT.same s_sx)
      replace S := S.sm s_sx
      clear h_sx
      clear s_sx
      generalize (upd Hq21 sx (.tup [.str "c", .int 9, .ref e2])) = Hq22 at hB r_en r_r r_w r_e0 r_e1 r_e2 r_sx S ⊢
      have hfit : (Sh.c 9 [.c 0 []]).fit (arK 1) := by simp [Sh.fit, Sh.fits, arK]
      have okr : (grow (.con0 0 "N") (1 + mm).toNat).oka := grow_oka (by simp [Vl.oka]) _
      have okw : (grow (.int 0) (1 + mm).toNat).oka := grow_oka (by simp [Vl.oka]) _
      refine ⟨_, rfl, _, rfl, _, rfl, Nat.zero_le _, fun p1 h_p1 => ?_⟩
      have s_p1 : Sm Hq22 (upd Hq22 p1 (.tup [])) := Sm.new h_p1
      have r_p1 : Rp K (upd Hq22 p1 (.tup [])) (.ref p1) (.tuple _) := Rp.mk upd_same (RpAll.on (.nil) (KT.upd_new h_p1))
      replace hB := hB.keep fun a o e _ => s_p1 a o e
      replace r_en := r_en.on (KT.same s_p1)
      replace r_r := r_r.on (KT.same s_p1)
      replace r_w := r_w.on (KT.same s_p1)
      replace r_e0 := r_e0.on (KT.same s_p1)
      replace r_e1 := r_e1.on (KT.same s_p1)
      replace r_e2 := r_e2.on (KT.same s_p1)
      replace r_sx := r_sx.on (KT.same s_p1)
      replace S := S.sm s_p1
      clear h_p1
      clear s_p1
      generalize (upd Hq22 p1 (.tup [])) = Hq23 at hB r_en r_r r_w r_e0 r_e1 r_e2 r_sx r_p1 S ⊢
      refine ⟨arK 1, .ref en, .ref sx, .ref rx, .ref p1, 60, esG, [], .c 9 [.c 0 []], _, rfl, by decide, ⟨esG_env [] (by simp [Vl.okas]), r_en, by simpa [Vl.ds] using r_p1⟩, by simpa [Sh.d, Sh.ds] using r_sx, hfit, r_r, okr, fun H5 s5 => ?_⟩
      replace hB := hB.keep fun a o e _ => s5 a o e
      replace r_en := r_en.on (KT.same s5)
      replace r_r := r_r.on (KT.same s5)
      replace r_w := r_w.on (KT.same s5)
      replace r_e0 := r_e0.on (KT.same s5)
      replace r_e1 := r_e1.on (KT.same s5)
      replace r_e2 := r_e2.on (KT.same s5)
      replace r_sx := r_sx.on (KT.same s5)
      replace r_p1 := r_p1.on (KT.same s5)
      replace S := S.sm s5
      rw [grow_ok]
      refine ⟨true, true, rfl, rfl, _, rfl, iteN (by decide) ?_⟩
      refine ⟨_, rfl, _, rfl, _, rfl, Nat.zero_le _, fun p2 h_p2 => ?_⟩
      have s_p2 : Sm H5 (upd H5 p2 (.tup [])) := Sm.new h_p2
      have r_p2 : Rp K (upd H5 p2 (.tup [])) (.ref p2) (.tuple _) := Rp.mk upd_same (RpAll.on (.nil) (KT.upd_new h_p2))
      replace hB := hB.keep fun a o e _ => s_p2 a o e
      replace r_en := r_en.on (KT.same s_p2)
      replace r_r := r_r.on (KT.same s_p2)
      replace r_w := r_w.on (KT.same s_p2)
      replace r_e0 := r_e0.on (KT.same s_p2)
      replace r_e1 := r_e1.on (KT.same s_p2)
      replace r_e2 := r_e2.on (KT.same s_p2)
      replace r_sx := r_sx.on (KT.same s_p2)
      replace r_p1 := r_p1.on (KT.same s_p2)
      replace S := S.sm s_p2
      clear h_p2
      clear s_p2
      generalize (upd H5 p2 (.tup [])) = Hq24 at hB r_en r_r r_w r_e0 r_e1 r_e2 r_sx r_p1 r_p2 S ⊢
      refine ⟨_, rfl, arK 1, .ref en, .ref sx, .ref rx, .ref p2, d, esG, [], .c 9 [.c 0 []], _, rfl, by omega, ⟨esG_env [] (by simp [Vl.okas]), r_en, by simpa [Vl.ds] using r_p2⟩, by simpa [Sh.d, Sh.ds] using r_sx, hfit, r_r, okr, fun H6 s6 => ?_⟩
      replace hB := hB.keep fun a o e _ => s6 a o e
      replace r_en := r_en.on (KT.same s6)
      replace r_r := r_r.on (KT.same s6)
      replace r_w := r_w.on (KT.same s6)
      replace r_e0 := r_e0.on (KT.same s6)
      replace r_e1 := r_e1.on (KT.same s6)
      replace r_e2 := r_e2.on (KT.same s6)
      replace r_sx := r_sx.on (KT.same s6)
      replace r_p1 := r_p1.on (KT.same s6)
      replace r_p2 := r_p2.on (KT.same s6)
      replace S := S.sm s6
      rw [grow_ok]
      refine ⟨true, true, rfl, rfl, _, rfl, iteN (by decide) ?_⟩
      refine ⟨_, rfl, _, rfl, _, rfl, Nat.zero_le _, fun p3 h_p3 => ?_⟩
      have s_p3 : Sm H6 (upd H6 p3 (.tup [])) := Sm.new h_p3
      have r_p3 : Rp K (upd H6 p3 (.tup [])) (.ref p3) (.tuple _) := Rp.mk upd_same (RpAll.on (.nil) (KT.upd_new h_p3))
      replace hB := hB.keep fun a o e _ => s_p3 a o e
      replace r_en := r_en.on (KT.same s_p3)
      replace r_r := r_r.on (KT.same s_p3)
      replace r_w := r_w.on (KT.same s_p3)
      replace r_e0 := r_e0.on (KT.same s_p3)
      replace r_e1 := r_e1.on (KT.same s_p3)
      replace r_e2 := r_e2.on (KT.same s_p3)
      replace r_sx := r_sx.on (KT.same s_p3)
      replace r_p1 := r_p1.on (KT.same s_p3)
      replace r_p2 := r_p2.on (KT.same s_p3)
      replace S := S.sm s_p3
      clear h_p3
      clear s_p3
      generalize (upd H6 p3 (.tup [])) = Hq25 at hB r_en r_r r_w r_e0 r_e1 r_e2 r_sx r_p1 r_p2 r_p3 S ⊢
      refine ⟨_, rfl, arK 1, .ref en, .ref sx, .ref wx, .ref p3, d, esG, [], .c 9 [.c 0 []], _, rfl, by omega, ⟨esG_env [] (by simp [Vl.okas]), r_en, by simpa [Vl.ds] using r_p3⟩, by simpa [Sh.d, Sh.ds] using r_sx, hfit, r_w, okw, fun H7 s7 => ?_⟩
      replace hB := hB.keep fun a o e _ => s7 a o e
      replace r_en := r_en.on (KT.same s7)
      replace r_r := r_r.on (KT.same s7)
      replace r_w := r_w.on (KT.same s7)
      replace r_e0 := r_e0.on (KT.same s7)
      replace r_e1 := r_e1.on (KT.same s7)
      replace r_e2 := r_e2.on (KT.same s7)
      replace r_sx := r_sx.on (KT.same s7)
      replace r_p1 := r_p1.on (KT.same s7)
      replace r_p2 := r_p2.on (KT.same s7)
      replace r_p3 := r_p3.on (KT.same s7)
      replace S := S.sm s7
      rw [grow_no]
      refine ⟨_, rfl, _, _, _, _, true, rfl, .ty _, .base (.bl _), kit_ty (by decide +kernel), _, rfl, iteT (B := _) ?_⟩
      have hd : decide (d.toNat ≤ (1 + mm).toNat) = decide (d ≤ 1 + mm) := by
        by_cases z : d ≤ 1 + mm
        · rw [decide_eq_true z, decide_eq_true (by omega)]
        · rw [decide_eq_false z, decide_eq_false (by omega)]
      rw [hd]
      refine ⟨_, rfl, _, rfl, _, rfl, _, _, rfl, rfl, rfl, ?_⟩
      have ht : decide (V.bl (decide (d ≤ 1 + mm)) = V.bl (decide (d ≤ 1 + mm))) = true := by simp
      rw [ht]
      exact k _ S hB
end
end K88

set_option Elab.async false
set_option maxRecDepth 100000
set_option linter.all false
set_option pp.maxSteps 400
set_option maxHeartbeats 40000000
namespace K88
open PySem L2 GD AG
section
variable {P : Program} {w : World} {K : PySem.W.Frag} {mg : Str → Option Value} {base : Heap} {A : Adr}
def spLaw (K : PySem.W.Frag) : Sp := fun vs H Q _ => ∃ (a : Addr) (ns : List Int), vs = [.ref a] ∧ SqL K H a (ns.map V.int) ∧ ns.length ≤ 63 ∧ ∀ H', Q (.bl true) H'
theorem ok_law (T : Txt K mg A) : FnOk P w K mg base CX0 196 A.f_law A.d_law ["script"] (spLaw K) := by
  have G__law_draw : FnOk P w K mg base CX0 2 A.f__law_draw A.d__law_draw _ _ := ok__law_draw T
  have G__law_box : FnOk P w K mg base CX0 1 A.f__law_box A.d__law_box _ _ := ok__law_box T
  have G__law_entries : FnOk P w K mg base CX0 1 A.f__law_entries A.d__law_entries _ _ := ok_ents T
  have G__law_shape : FnOk P w K mg base CX0 6 A.f__law_shape A.d__law_shape _ _ := ok_shape T 3
  have G__law_value : FnOk P w K mg base CX0 20 A.f__law_value A.d__law_value _ _ := ok_value T 8
  have G__law_spoilt : FnOk P w K mg base CX0 20 A.f__law_spoilt A.d__law_spoilt _ _ := ok_spo T 17
  have G__law_deep : FnOk P w K mg base CX0 194 A.f__law_deep A.d__law_deep _ _ := ok_deep T
  have G__law_grown : FnOk P w K mg base CX0 194 A.f__law_grown A.d__law_grown _ _ := ok_grown T
  have G_agrees : FnOk P w K mg base CX0 192 A.f_agrees A.d_agrees _ _ := ok_agr T 60
  refine T.F_law.ok (k := 195) sc_law (fun vs H Q E h => ?_) (fun cdv Ar outer s H vs Q E hr h => ?_)
  · obtain ⟨a, ns, rfl, _⟩ := h
    rfl
  · obtain ⟨a, ns, rfl, hS, hlen, k⟩ := h
    refine ⟨_, (pss_cons (ps_set (i := 1) sc_law.nd rfl (Or.inl rfl) (pe_call G__law_box (hr.mono (by first | decide | omega)) rfl T.g__law_box T.F__law_box.kp T.b__law_box .nil pass0 (pa_cons (pv 0) (pa_cons pe_int pa_nil)))) (pss_cons (ps_set (i := 2) sc_law.nd rfl (Or.inl rfl) (pe_call G__law_shape (hr.mono (by first | decide | omega)) rfl T.g__law_shape T.F__law_shape.kp T.b__law_shape .nil pass0 (pa_cons (pv 1) (pa_cons pe_int pa_nil)))) (pss_cons (ps_set (i := 3) sc_law.nd rfl (Or.inl rfl) (pe_lst pa_nil)) (pss_cons (ps_set (i := 4) sc_law.nd rfl (Or.inl rfl) (pe_call G__law_value (hr.mono (by first | decide | omega)) rfl T.g__law_value T.F__law_value.kp T.b__law_value .nil pass0 (pa_cons (pv 1) (pa_cons (pv 2) (pa_cons (pv 3) (pa_cons pe_int pa_nil)))))) (pss_cons (ps_set (i := 5) sc_law.nd rfl (Or.inl rfl) (pe_call G__law_draw (hr.mono (by first | decide | omega)) rfl T.g__law_draw T.F__law_draw.kp T.b__law_draw .nil pass0 (pa_cons (pv 1) (pa_cons pe_int pa_nil)))) (pss_cons (ps_for PassesOwn.never rfl (pi_list (pe_lst (pa_cons (pe_call G__law_entries (hr.mono (by first | decide | omega)) rfl T.g__law_entries T.F__law_entries.kp T.b__law_entries .nil pass0 (pa_cons pe_int pa_nil)) (pa_cons (pe_call G__law_entries (hr.mono (by first | decide | omega)) rfl T.g__law_entries T.F__law_entries.kp T.b__law_entries .nil pass0 (pa_cons (pv 5) pa_nil)) pa_nil)))) (pg_name (i := 6) sc_law.nd rfl (Or.inl rfl)) (pss_one (ps_for PassesOwn.never rfl (pi_list (pe_lst (pa_cons pe_int (pa_cons pe_int (pa_cons pe_int (pa_cons pe_int (pa_cons pe_int pa_nil))))))) (pg_name (i := 7) sc_law.nd rfl (Or.inl rfl)) (pss_one (ps_if (pt_cmpR op_notBl (pe_call G_agrees (hr.mono (by first | decide | omega)) rfl T.g_agrees T.F_agrees.kp T.b_agrees .nil pass0 (pa_cons (pv 6) (pa_cons (pv 2) (pa_cons (pv 4) (pa_cons (pe_callTy call_tuple_of (by rfl) T.n_tuple (by decide +kernel) (pa_cons (pv 3) pa_nil)) (pa_cons (pv 7) pa_nil)))))) pe_bl (nomark _)) (pss_one (ps_ret pe_bl)) pss_nil))))) (pss_cons (ps_if (pt_cmpR op_notBl (pe_call G_agrees (hr.mono (by first | decide | omega)) rfl T.g_agrees T.F_agrees.kp T.b_agrees .nil pass0 (pa_cons (pe_call G__law_entries (hr.mono (by first | decide | omega)) rfl T.g__law_entries T.F__law_entries.kp T.b__law_entries .nil pass0 (pa_cons pe_int pa_nil)) (pa_cons (pe_tup (pa_cons pe_str (pa_cons pe_int pa_nil))) (pa_cons (pv 4) (pa_cons (pe_callTy call_tuple_of (by rfl) T.n_tuple (by decide +kernel) (pa_cons (pv 3) pa_nil)) (pa_cons pe_int pa_nil)))))) pe_bl (nomark _)) (pss_one (ps_ret pe_bl)) pss_nil) (pss_cons (ps_if (pt_cmpR op_notBl (pe_call G_agrees (hr.mono (by first | decide | omega)) rfl T.g_agrees T.F_agrees.kp T.b_agrees .nil pass0 (pa_cons (pe_call G__law_entries (hr.mono (by first | decide | omega)) rfl T.g__law_entries T.F__law_entries.kp T.b__law_entries .nil pass0 (pa_cons pe_int pa_nil)) (pa_cons (pe_tup (pa_cons pe_str (pa_cons pe_int (pa_cons (pe_tup pa_nil) pa_nil)))) (pa_cons (pv 4) (pa_cons (pe_callTy call_tuple_of (by rfl) T.n_tuple (by decide +kernel) (pa_cons (pv 3) pa_nil)) (pa_cons pe_int pa_nil)))))) pe_bl (nomark _)) (pss_one (ps_ret pe_bl)) pss_nil) (pss_cons (ps_set (i := 8) sc_law.nd rfl (Or.inl rfl) (pe_callTy call_list_of (by rfl) T.n_list (by decide +kernel) (pa_cons (pv 3) pa_nil))) (pss_cons (ps_set (i := 9) sc_law.nd rfl (Or.inl rfl) (pe_call G__law_spoilt (hr.mono (by first | decide | omega)) rfl T.g__law_spoilt T.F__law_spoilt.kp T.b__law_spoilt .nil pass0 (pa_cons (pv 1) (pa_cons (pv 4) (pa_cons (pv 8) pa_nil))))) (pss_cons (ps_if (pt_cmpR op_notBl (pe_call G_agrees (hr.mono (by first | decide | omega)) rfl T.g_agrees T.F_agrees.kp T.b_agrees .nil pass0 (pa_cons (pe_call G__law_entries (hr.mono (by first | decide | omega)) rfl T.g__law_entries T.F__law_entries.kp T.b__law_entries .nil pass0 (pa_cons pe_int pa_nil)) (pa_cons (pv 2) (pa_cons (pv 9) (pa_cons (pe_callTy call_tuple_of (by rfl) T.n_tuple (by decide +kernel) (pa_cons (pv 8) pa_nil)) (pa_cons pe_int pa_nil)))))) pe_bl (nomark _)) (pss_one (ps_ret pe_bl)) pss_nil) (pss_one (ps_ret (pe_and (pe_call G__law_deep (hr.mono (by first | decide | omega)) rfl T.g__law_deep T.F__law_deep.kp T.b__law_deep .nil pass0 (pa_cons (pv 1) pa_nil)) (pe_one (pe_call G__law_grown (hr.mono (by first | decide | omega)) rfl T.g__law_grown T.F__law_grown.kp T.b__law_grown .nil pass0 (pa_cons (pv 1) pa_nil))))))))))))))))), ?_⟩
    refine ⟨_, rfl, a, ns, 0, rfl, hS, hlen, fun b c H1 hb0 hc0 sm1 hB => ?_⟩
    refine ⟨_, rfl, b, c, 3, rfl, rfl, hB, fun x sh H2 hs2 hB2 r_s gs => ?_⟩
    replace hB := hB2
    clear hB2 hs2
    refine ⟨Nat.zero_le _, fun s hs0 => ?_⟩
    have ss : Sm H2 (upd H2 s (.lst [])) := Sm.new hs0
    have hst : StAt K (upd H2 s (.lst [])) b c s [] := ⟨by obtain ⟨o, e⟩ := hB.at_b; exact (ne_of_none e hs0).symm, by obtain ⟨o, e⟩ := hB.at_c; exact (ne_of_none e hs0).symm, ⟨[], upd_same, .nil⟩, by simp [Vl.okas]⟩
    replace hB : BoxAt (upd H2 s (.lst [])) b c := hB.keep fun a o e _ => ss a o e
    replace r_s := r_s.on (KT.same ss)
    generalize (upd H2 s (.lst [])) = H3 at hst hB r_s ⊢
    clear ss hs0
    refine ⟨_, rfl, _, rfl, _, rfl, b, c, s, x, 5, 3, sh, [], rfl, by decide, gs, hB, hst, by decide, r_s, fun vx H4 v st hv4 hB4 hst4 r_v pre len ok => ?_⟩
    have S : Vs b c s H4 H4 := Vs.refl
    replace r_s := r_s.on (hB.ktv hst hv4)
    replace hB := hB4
    replace hst := hst4
    clear hB4 hst4 hv4
    refine ⟨_, rfl, b, c, 6, rfl, by decide, by decide, hB, fun hid H5 i0 i1 hx5 hB5 => ?_⟩
    replace hst := hst.bx hB hx5
    replace r_s := r_s.on (hB.kt hx5)
    replace r_v := r_v.on (hB.kt hx5)
    replace S := S.bx hx5
    replace hB := hB5
    clear S
    have S : Vs b c s H5 H5 := Vs.refl
    refine ⟨3, rfl, fun en1 H6 s6 r_e1 => ?_⟩
    replace hB := hB.keep fun a o e _ => s6 a o e
    replace hst := hst.sm s6
    replace r_s := r_s.on (KT.same s6)
    replace r_v := r_v.on (KT.same s6)
    replace S := S.sm s6
    refine ⟨_, rfl, hid, rfl, fun en2 H7 s7 r_e2 => ?_⟩
    replace hB := hB.keep fun a o e _ => s7 a o e
    replace hst := hst.sm s7
    replace r_s := r_s.on (KT.same s7)
    replace r_v := r_v.on (KT.same s7)
    replace r_e1 := r_e1.on (KT.same s7)
    replace S := S.sm s7
    have hvo := ok.oka
    have hfit := gs.fit
    refine ⟨(show 2 ≤ sizeLine by decide), fun L h_L => ?_⟩
    have s_L : Sm H7 (upd H7 L (.lst [en1, en2])) := Sm.new h_L
    have o_L : (upd H7 L (.lst [en1, en2])) L = some (.lst [en1, en2]) := upd_same
    replace hB := hB.keep fun a o e _ => s_L a o e
    replace hst := hst.sm s_L
    replace r_s := r_s.on (KT.same s_L)
    replace r_v := r_v.on (KT.same s_L)
    replace r_e1 := r_e1.on (KT.same s_L)
    replace r_e2 := r_e2.on (KT.same s_L)
    replace S := S.sm s_L
    generalize (upd H7 L (.lst [en1, en2])) = H8 at hB hst r_s r_v r_e1 r_e2 o_L S ⊢
    have both : ∀ (i : Nat) (y : V), [en1, en2][i]? = some y → ∃ h : Int, Rp K H8 y (.tuple (Ent.ds (esOf h))) := fun i y e => by
      match i, e with
      | 0, e => simp at e; subst e; exact ⟨3, r_e1⟩
      | 1, e => simp at e; subst e; exact ⟨hid, r_e2⟩
      | i + 2, e => simp at e
    refine ⟨L, rfl, ⟨_, SqL.of o_L⟩, for_list (xs := [en1, en2]) (fun i σ' H' => ∃ v6 v7 : Option V, σ' = [some (.ref a), some (.ref b), some x, some (.ref s), some vx, some (.int hid), v6, v7, none, none] ∧ Sm H8 H') ?_ ?_ ?_ ?_⟩
    · exact ⟨none, none, rfl, Sm.refl⟩
    · rintro i σ' H' _ ⟨v6, v7, rfl, s1⟩
      exact SqL.of (s1 _ _ o_L)
    · rintro i y σ' H' hy ⟨v6, v7, rfl, s1⟩
      obtain ⟨hh, r_y⟩ := both i y hy
      refine ⟨(show 5 ≤ sizeLine by decide), fun M h_M => ?_⟩
      have o_M : (upd H' M (.lst [.int 0, .int 1, .int 2, .int 5, .int 40])) M = some (.lst [.int 0, .int 1, .int 2, .int 5, .int 40]) := upd_same
      have s2 : Sm H8 (upd H' M (.lst [.int 0, .int 1, .int 2, .int 5, .int 40])) := s1.on h_M
      generalize (upd H' M (.lst [.int 0, .int 1, .int 2, .int 5, .int 40])) = H9 at o_M s2 ⊢
      refine ⟨M, rfl, ⟨_, SqL.of o_M⟩, for_list (xs := [.int 0, .int 1, .int 2, .int 5, .int 40]) (fun j σ' H' => ∃ v7 : Option V, σ' = [some (.ref a), some (.ref b), some x, some (.ref s), some vx, some (.int hid), some y, v7, none, none] ∧ Sm H9 H') ?_ ?_ ?_ ?_⟩
      · exact ⟨_, rfl, Sm.refl⟩
      · rintro j σ' H' _ ⟨v7, rfl, s3⟩
        exact SqL.of (s3 _ _ o_M)
      · rintro j z σ' H' hz ⟨v7, rfl, s3⟩
        have hzd : ∃ d : Int, z = .int d ∧ d ≤ 60 := by
          match j, hz with
          | 0, e => simp at e; subst e; exact ⟨_, rfl, by decide⟩
          | 1, e => simp at e; subst e; exact ⟨_, rfl, by decide⟩
          | 2, e => simp at e; subst e; exact ⟨_, rfl, by decide⟩
          | 3, e => simp at e; subst e; exact ⟨_, rfl, by decide⟩
          | 4, e => simp at e; subst e; exact ⟨_, rfl, by decide⟩
          | j + 5, e => simp at e
        obtain ⟨d, rfl, hd⟩ := hzd
        have s23 : Sm H8 H' := s2.trans s3
        obtain ⟨vs0, es0, rs0⟩ := (hst.sm s23).at_
        refine ⟨_, rfl, _, rfl, _, rfl, _, rfl, s, _, rfl, .inl ⟨SqL.of es0, fun t h_t => ?_⟩⟩
        have s_t : Sm H8 (upd H' t (.tup vs0)) := s23.on h_t
        have r_t : Rp K (upd H' t (.tup vs0)) (.ref t) (.tuple (Vl.ds st)) := Rp.mk upd_same (rs0.on (KT.upd_new h_t))
        have kt := KT.same s_t
        refine ⟨_, rfl, arK 0, y, x, vx, .ref t, d, esOf hh, st, sh, v, rfl, hd, ⟨es_env hh 0 (by decide) st hst.ok, r_y.on kt, r_t⟩, r_s.on kt, hfit, r_v.on kt, hvo, fun H10 s10 => ?_⟩
        rw [ok.agrees (sub_es hh)]
        refine ⟨true, true, rfl, rfl, _, rfl, iteN (by decide) ?_⟩
        exact ⟨_, rfl, (s3.on h_t).trans s10⟩
      · rintro σ' H' ⟨v7, rfl, s3⟩
        exact ⟨_, _, rfl, s2.trans s3⟩
    · rintro σ' H' ⟨v6, v7, rfl, s1⟩
      clear both
      replace hB := hB.keep fun a o e _ => s1 a o e
      replace hst := hst.sm s1
      replace r_s := r_s.on (KT.same s1)
      replace r_v := r_v.on (KT.same s1)
      replace S := S.sm s1
      clear r_e1 r_e2 o_L
      -- a variable
      refine ⟨3, rfl, fun en Ha sa r_en => ?_⟩
      replace hB := hB.keep fun a o e _ => sa a o e
      replace hst := hst.sm sa
      replace r_s := r_s.on (KT.same sa)
      replace r_v := r_v.on (KT.same sa)
      replace S := S.sm sa
      refine ⟨(show 2 ≤ sizeLine by decide), fun va h_va => ?_⟩
      have s_va : Sm Ha (upd Ha va (.tup [.str "v", .int 0])) := Sm.new h_va
      have r_va : Rp K (upd Ha va (.tup [.str "v", .int 0])) (.ref va) (.tuple _) := Rp.mk upd_same (RpAll.on (.cons sok (.cons (.int _) .nil)) (KT.upd_new h_va))
      replace hB := hB.keep fun a o e _ => s_va a o e
      replace hst := hst.sm s_va
      replace r_s := r_s.on (KT.same s_va)
      replace r_v := r_v.on (KT.same s_va)
      replace r_en := r_en.on (KT.same s_va)
      replace S := S.sm s_va
      clear h_va
      clear s_va
      generalize (upd Ha va (.tup [.str "v", .int 0])) = Hq1 at hB hst r_s r_v r_en r_va S ⊢
      refine ⟨_, rfl, _, rfl, ?_⟩
      obtain ⟨vs0, es0, rs0⟩ := hst.at_
      refine ⟨s, _, rfl, .inl ⟨SqL.of es0, fun t h_t => ?_⟩⟩
      have r_t : Rp K (upd Hq1 t (.tup vs0)) (.ref t) (.tuple (Vl.ds st)) := Rp.mk upd_same (rs0.on (KT.upd_new h_t))
      have s_t : Sm Hq1 (upd Hq1 t (.tup vs0)) := Sm.new h_t
      clear h_t es0 rs0
      generalize (upd Hq1 t (.tup vs0)) = Hb at s_t r_t ⊢
      replace hB := hB.keep fun a o e _ => s_t a o e
      replace hst := hst.sm s_t
      replace r_s := r_s.on (KT.same s_t)
      replace r_v := r_v.on (KT.same s_t)
      replace r_en := r_en.on (KT.same s_t)
      replace r_va := r_va.on (KT.same s_t)
      replace S := S.sm s_t
      refine ⟨arK 0, en, .ref va, vx, .ref t, 40, esOf 3, st, .v 0, v, rfl, by decide, ⟨es_env 3 0 (by decide) st hst.ok, r_en, r_t⟩, (by simpa [Sh.d] using r_va), by simp [Sh.fit], r_v, hvo, fun Hc sc => ?_⟩
      rw [show agr (Ent.rowss (esOf 3)) st (40 : Int).toNat (.v 0) v = false from rfl]
      replace hB := hB.keep fun a o e _ => sc a o e
      replace hst := hst.sm sc
      replace r_s := r_s.on (KT.same sc)
      replace r_v := r_v.on (KT.same sc)
      replace r_en := r_en.on (KT.same sc)
      replace r_va := r_va.on (KT.same sc)
      replace r_t := r_t.on (KT.same sc)
      replace S := S.sm sc
      refine ⟨false, false, rfl, rfl, _, rfl, iteN (by decide) ?_⟩
      -- an unknown stamp
      clear r_en r_va r_t
      refine ⟨3, rfl, fun en Ha sa r_en => ?_⟩
      replace hB := hB.keep fun a o e _ => sa a o e
      replace hst := hst.sm sa
      replace r_s := r_s.on (KT.same sa)
      replace r_v := r_v.on (KT.same sa)
      replace S := S.sm sa
      refine ⟨Nat.zero_le _, fun e9 h_e9 => ?_⟩
      have s_e9 : Sm Ha (upd Ha e9 (.tup [])) := Sm.new h_e9
      have r_e9 : Rp K (upd Ha e9 (.tup [])) (.ref e9) (.tuple _) := Rp.mk upd_same (RpAll.on (.nil) (KT.upd_new h_e9))
      replace hB := hB.keep fun a o e _ => s_e9 a o e
      replace hst := hst.sm s_e9
      replace r_s := r_s.on (KT.same s_e9)
      replace r_v := r_v.on (KT.same s_e9)
      replace r_en := r_en.on (KT.same s_e9)
      replace S := S.sm s_e9
      clear h_e9
      clear s_e9
      generalize (upd Ha e9 (.tup [])) = Hq2 at hB hst r_s r_v r_en r_e9 S ⊢
      refine ⟨(show 3 ≤ sizeLine by decide), fun n9 h_n9 => ?_⟩
      have s_n9 : Sm Hq2 (upd Hq2 n9 (.tup [.str "c", .int 9, .ref e9])) := Sm.new h_n9
      have r_n9 : Rp K (upd Hq2 n9 (.tup [.str "c", .int 9, .ref e9])) (.ref n9) (.tuple _) := Rp.mk upd_same (RpAll.on (.cons sok (.cons (.int _) (.cons r_e9 .nil))) (KT.upd_new h_n9))
      replace hB := hB.keep fun a o e _ => s_n9 a o e
      replace hst := hst.sm s_n9
      replace r_s := r_s.on (KT.same s_n9)
      replace r_v := r_v.on (KT.same s_n9)
      replace r_en := r_en.on (KT.same s_n9)
      replace r_e9 := r_e9.on (KT.same s_n9)
      replace S := S.sm s_n9
      clear h_n9
      clear s_n9
      generalize (upd Hq2 n9 (.tup [.str "c", .int 9, .ref e9])) = Hq3 at hB hst r_s r_v r_en r_e9 r_n9 S ⊢
      refine ⟨_, rfl, _, rfl, ?_⟩
      obtain ⟨vs0, es0, rs0⟩ := hst.at_
      refine ⟨s, _, rfl, .inl ⟨SqL.of es0, fun t h_t => ?_⟩⟩
      have r_t : Rp K (upd Hq3 t (.tup vs0)) (.ref t) (.tuple (Vl.ds st)) := Rp.mk upd_same (rs0.on (KT.upd_new h_t))
      have s_t : Sm Hq3 (upd Hq3 t (.tup vs0)) := Sm.new h_t
      clear h_t es0 rs0
      generalize (upd Hq3 t (.tup vs0)) = Hb at s_t r_t ⊢
      replace hB := hB.keep fun a o e _ => s_t a o e
      replace hst := hst.sm s_t
      replace r_s := r_s.on (KT.same s_t)
      replace r_v := r_v.on (KT.same s_t)
      replace r_en := r_en.on (KT.same s_t)
      replace r_e9 := r_e9.on (KT.same s_t)
      replace r_n9 := r_n9.on (KT.same s_t)
      replace S := S.sm s_t
      refine ⟨arK 0, en, .ref n9, vx, .ref t, 40, esOf 3, st, .c 9 [], v, rfl, by decide, ⟨es_env 3 0 (by decide) st hst.ok, r_en, r_t⟩, (by simpa [Sh.d, Sh.ds] using r_n9), by simp [Sh.fit, Sh.fits, arK], r_v, hvo, fun Hc sc => ?_⟩
      rw [agr_none (by decide) (by rw [rows_full]; rfl)]
      replace hB := hB.keep fun a o e _ => sc a o e
      replace hst := hst.sm sc
      replace r_s := r_s.on (KT.same sc)
      replace r_v := r_v.on (KT.same sc)
      replace r_en := r_en.on (KT.same sc)
      replace r_e9 := r_e9.on (KT.same sc)
      replace r_n9 := r_n9.on (KT.same sc)
      replace r_t := r_t.on (KT.same sc)
      replace S := S.sm sc
      refine ⟨true, true, rfl, rfl, _, rfl, iteN (by decide) ?_⟩
      -- spoilt
      clear r_en r_e9 r_n9 r_t
      obtain ⟨vs0, es0, rs0⟩ := hst.at_
      refine ⟨_, rfl, s, _, rfl, .inl (SqL.of es0), fun kp h_k => ?_⟩
      have s_k : Sm Hc (upd Hc kp (.lst vs0)) := Sm.new h_k
      have hk : StAt K (upd Hc kp (.lst vs0)) b c kp st := ⟨by obtain ⟨o, e⟩ := hB.at_b; exact (ne_of_none e h_k).symm, by obtain ⟨o, e⟩ := hB.at_c; exact (ne_of_none e h_k).symm, ⟨vs0, upd_same, rs0.on (KT.upd_new h_k)⟩, hst.ok⟩
      clear h_k es0 rs0
      generalize (upd Hc kp (.lst vs0)) = Hk at s_k hk ⊢
      replace hB := hB.keep fun a o e _ => s_k a o e
      replace hst := hst.sm s_k
      replace r_s := r_s.on (KT.same s_k)
      replace r_v := r_v.on (KT.same s_k)
      replace S := S.sm s_k
      refine ⟨_, rfl, _, rfl, _, rfl, b, c, kp, vx, st.length, sh, st, v, rfl, ok, hB, hk, r_v, fun wv Hw w st' hvw hBw hstw r_w sp wok => ?_⟩
      replace r_s := r_s.on (hB.ktv hk hvw)
      clear hst hk S hB r_v
      refine ⟨3, rfl, fun en Ha sa r_en => ?_⟩
      replace hBw := hBw.keep fun a o e _ => sa a o e
      replace hstw := hstw.sm sa
      replace r_s := r_s.on (KT.same sa)
      replace r_w := r_w.on (KT.same sa)
      obtain ⟨vs0, es0, rs0⟩ := hstw.at_
      refine ⟨_, rfl, _, rfl, _, rfl, kp, _, rfl, .inl ⟨SqL.of es0, fun t h_t => ?_⟩⟩
      have r_t : Rp K (upd Ha t (.tup vs0)) (.ref t) (.tuple (Vl.ds st')) := Rp.mk upd_same (rs0.on (KT.upd_new h_t))
      have s_t : Sm Ha (upd Ha t (.tup vs0)) := Sm.new h_t
      clear h_t es0 rs0
      generalize (upd Ha t (.tup vs0)) = Hb at s_t r_t ⊢
      replace hBw := hBw.keep fun a o e _ => s_t a o e
      replace hstw := hstw.sm s_t
      replace r_s := r_s.on (KT.same s_t)
      replace r_w := r_w.on (KT.same s_t)
      replace r_en := r_en.on (KT.same s_t)
      refine ⟨arK 0, en, x, wv, .ref t, 60, esOf 3, st', sh, w, rfl, by decide, ⟨es_env 3 0 (by decide) st' hstw.ok, r_en, r_t⟩, r_s, hfit, r_w, wok, fun Hc sc => ?_⟩
      rw [rows_full, show (60 : Int).toNat = 60 from rfl, ok.spoilt other_full sp st' 60 (by decide) (fun _ _ => rfl)]
      replace hBw := hBw.keep fun a o e _ => sc a o e
      replace hstw := hstw.sm sc
      replace r_s := r_s.on (KT.same sc)
      replace r_w := r_w.on (KT.same sc)
      replace r_en := r_en.on (KT.same sc)
      refine ⟨false, false, rfl, rfl, _, rfl, iteN (by decide) ?_⟩
      refine ⟨_, rfl, b, c, rfl, hBw, fun Hd sd hBd => ⟨_, rfl, iteT (B := _) ?_⟩⟩
      exact ⟨_, rfl, b, c, rfl, hBd, fun He se hBe => k _⟩
end
end K88

set_option Elab.async false
set_option maxRecDepth 100000
set_option linter.all false
set_option maxHeartbeats 4000000
set_option pp.maxSteps 400
namespace K88
open PySem L2 GD AG
theorem all_mk {l : PySem.W.OpenLaw} {w : World} {K : PySem.W.Frag} {h : Heap} {mg : Str → Option Value} {fa : Addr} (X : K.In h) (G : h.Ns mainGlobals mg) (hfa : mg "law" = some (.ref fa))
    {f0 f1 f2 f3 f4 f5 f6 f7 f8 f9 f10 f11 f12 f13 f14 f15 f16 f17 f18 f19 C_INT C_UNIT C_EXN C_BASIS : Addr} {od0 an0 od1 an1 od2 an2 od3 an3 od4 an4 od5 an5 od6 an6 od7 an7 od8 an8 od9 an9 od10 an10 od11 an11 od12 an12 od13 an13 od14 an14 od15 an15 od16 an16 od17 an17 od18 an18 od19 an19 : Option Addr} {sl0 sl1 sl2 sl3 sl4 sl5 sl6 sl7 sl8 sl9 sl10 sl11 sl12 sl13 sl14 sl15 sl16 sl17 sl18 sl19 : Array (Option Value)} {oc0 kV0 dc0 pm0 cd0 ct0 oc1 kV1 dc1 pm1 cd1 ct1 oc2 kV2 dc2 pm2 cd2 ct2 oc3 kV3 dc3 pm3 cd3 ct3 oc4 kV4 dc4 pm4 cd4 ct4 oc5 kV5 dc5 pm5 cd5 ct5 oc6 kV6 dc6 pm6 cd6 ct6 oc7 kV7 dc7 pm7 cd7 ct7 oc8 kV8 dc8 pm8 cd8 ct8 oc9 kV9 dc9 pm9 cd9 ct9 oc10 kV10 dc10 pm10 cd10 ct10 oc11 kV11 dc11 pm11 cd11 ct11 oc12 kV12 dc12 pm12 cd12 ct12 oc13 kV13 dc13 pm13 cd13 ct13 oc14 kV14 dc14 pm14 cd14 ct14 oc15 kV15 dc15 pm15 cd15 ct15 oc16 kV16 dc16 pm16 cd16 ct16 oc17 kV17 dc17 pm17 cd17 ct17 oc18 kV18 dc18 pm18 cd18 ct18 oc19 kV19 dc19 pm19 cd19 ct19 : Value}
    (a0 : PySem.W.nsIn K mainGlobals "direct_parts" = some (some (.ref f0)))
    (l0 : K.lookup f0 = some ⟨oc0, od0, .func (PySem.W.fnOf "direct_parts" "direct_parts" (defArgs s_direct_parts) (defBody s_direct_parts) (defScope s_direct_parts) .none kV0 dc0 pm0 an0 cd0 ct0), sl0⟩) (c0 : PySem.W.codeIn K cd0 "direct_parts" = true) (k0 : PySem.W.keepIn K (.ref f0) = true)
    (a1 : PySem.W.nsIn K mainGlobals "with_parts" = some (some (.ref f1)))
    (l1 : K.lookup f1 = some ⟨oc1, od1, .func (PySem.W.fnOf "with_parts" "with_parts" (defArgs s_with_parts) (defBody s_with_parts) (defScope s_with_parts) .none kV1 dc1 pm1 an1 cd1 ct1), sl1⟩) (c1 : PySem.W.codeIn K cd1 "with_parts" = true) (k1 : PySem.W.keepIn K (.ref f1) = true)
    (a2 : PySem.W.nsIn K mainGlobals "replace_variables" = some (some (.ref f2)))
    (l2 : K.lookup f2 = some ⟨oc2, od2, .func (PySem.W.fnOf "replace_variables" "replace_variables" (defArgs s_replace_variables) (defBody s_replace_variables) (defScope s_replace_variables) .none kV2 dc2 pm2 an2 cd2 ct2), sl2⟩) (c2 : PySem.W.codeIn K cd2 "replace_variables" = true) (k2 : PySem.W.keepIn K (.ref f2) = true)
    (a3 : PySem.W.nsIn K mainGlobals "constructor_entries" = some (some (.ref f3)))
    (l3 : K.lookup f3 = some ⟨oc3, od3, .func (PySem.W.fnOf "constructor_entries" "constructor_entries" (defArgs s_constructor_entries) (defBody s_constructor_entries) (defScope s_constructor_entries) .none kV3 dc3 pm3 an3 cd3 ct3), sl3⟩) (c3 : PySem.W.codeIn K cd3 "constructor_entries" = true) (k3 : PySem.W.keepIn K (.ref f3) = true)
    (a4 : PySem.W.nsIn K mainGlobals "constructors_of" = some (some (.ref f4)))
    (l4 : K.lookup f4 = some ⟨oc4, od4, .func (PySem.W.fnOf "constructors_of" "constructors_of" (defArgs s_constructors_of) (defBody s_constructors_of) (defScope s_constructors_of) .none kV4 dc4 pm4 an4 cd4 ct4), sl4⟩) (c4 : PySem.W.codeIn K cd4 "constructors_of" = true) (k4 : PySem.W.keepIn K (.ref f4) = true)
    (a5 : PySem.W.nsIn K mainGlobals "agrees_with_entry" = some (some (.ref f5)))
    (l5 : K.lookup f5 = some ⟨oc5, od5, .func (PySem.W.fnOf "agrees_with_entry" "agrees_with_entry" (defArgs s_agrees_with_entry) (defBody s_agrees_with_entry) (defScope s_agrees_with_entry) .none kV5 dc5 pm5 an5 cd5 ct5), sl5⟩) (c5 : PySem.W.codeIn K cd5 "agrees_with_entry" = true) (k5 : PySem.W.keepIn K (.ref f5) = true)
    (a6 : PySem.W.nsIn K mainGlobals "agrees_with_constructor" = some (some (.ref f6)))
    (l6 : K.lookup f6 = some ⟨oc6, od6, .func (PySem.W.fnOf "agrees_with_constructor" "agrees_with_constructor" (defArgs s_agrees_with_constructor) (defBody s_agrees_with_constructor) (defScope s_agrees_with_constructor) .none kV6 dc6 pm6 an6 cd6 ct6), sl6⟩) (c6 : PySem.W.codeIn K cd6 "agrees_with_constructor" = true) (k6 : PySem.W.keepIn K (.ref f6) = true)
    (a7 : PySem.W.nsIn K mainGlobals "agrees" = some (some (.ref f7)))
    (l7 : K.lookup f7 = some ⟨oc7, od7, .func (PySem.W.fnOf "agrees" "agrees" (defArgs s_agrees) (defBody s_agrees) (defScope s_agrees) .none kV7 dc7 pm7 an7 cd7 ct7), sl7⟩) (c7 : PySem.W.codeIn K cd7 "agrees" = true) (k7 : PySem.W.keepIn K (.ref f7) = true)
    (a8 : PySem.W.nsIn K mainGlobals "_law_box" = some (some (.ref f8)))
    (l8 : K.lookup f8 = some ⟨oc8, od8, .func (PySem.W.fnOf "_law_box" "_law_box" (defArgs s__law_box) (defBody s__law_box) (defScope s__law_box) .none kV8 dc8 pm8 an8 cd8 ct8), sl8⟩) (c8 : PySem.W.codeIn K cd8 "_law_box" = true) (k8 : PySem.W.keepIn K (.ref f8) = true)
    (a9 : PySem.W.nsIn K mainGlobals "_law_load" = some (some (.ref f9)))
    (l9 : K.lookup f9 = some ⟨oc9, od9, .func (PySem.W.fnOf "_law_load" "_law_load" (defArgs s__law_load) (defBody s__law_load) (defScope s__law_load) .none kV9 dc9 pm9 an9 cd9 ct9), sl9⟩) (c9 : PySem.W.codeIn K cd9 "_law_load" = true) (k9 : PySem.W.keepIn K (.ref f9) = true)
    (a10 : PySem.W.nsIn K mainGlobals "_law_draw" = some (some (.ref f10)))
    (l10 : K.lookup f10 = some ⟨oc10, od10, .func (PySem.W.fnOf "_law_draw" "_law_draw" (defArgs s__law_draw) (defBody s__law_draw) (defScope s__law_draw) .none kV10 dc10 pm10 an10 cd10 ct10), sl10⟩) (c10 : PySem.W.codeIn K cd10 "_law_draw" = true) (k10 : PySem.W.keepIn K (.ref f10) = true)
    (a11 : PySem.W.nsIn K mainGlobals "_law_entries" = some (some (.ref f11)))
    (l11 : K.lookup f11 = some ⟨oc11, od11, .func (PySem.W.fnOf "_law_entries" "_law_entries" (defArgs s__law_entries) (defBody s__law_entries) (defScope s__law_entries) .none kV11 dc11 pm11 an11 cd11 ct11), sl11⟩) (c11 : PySem.W.codeIn K cd11 "_law_entries" = true) (k11 : PySem.W.keepIn K (.ref f11) = true)
    (a12 : PySem.W.nsIn K mainGlobals "_law_shape" = some (some (.ref f12)))
    (l12 : K.lookup f12 = some ⟨oc12, od12, .func (PySem.W.fnOf "_law_shape" "_law_shape" (defArgs s__law_shape) (defBody s__law_shape) (defScope s__law_shape) .none kV12 dc12 pm12 an12 cd12 ct12), sl12⟩) (c12 : PySem.W.codeIn K cd12 "_law_shape" = true) (k12 : PySem.W.keepIn K (.ref f12) = true)
    (a13 : PySem.W.nsIn K mainGlobals "_law_stored" = some (some (.ref f13)))
    (l13 : K.lookup f13 = some ⟨oc13, od13, .func (PySem.W.fnOf "_law_stored" "_law_stored" (defArgs s__law_stored) (defBody s__law_stored) (defScope s__law_stored) .none kV13 dc13 pm13 an13 cd13 ct13), sl13⟩) (c13 : PySem.W.codeIn K cd13 "_law_stored" = true) (k13 : PySem.W.keepIn K (.ref f13) = true)
    (a14 : PySem.W.nsIn K mainGlobals "_law_value" = some (some (.ref f14)))
    (l14 : K.lookup f14 = some ⟨oc14, od14, .func (PySem.W.fnOf "_law_value" "_law_value" (defArgs s__law_value) (defBody s__law_value) (defScope s__law_value) .none kV14 dc14 pm14 an14 cd14 ct14), sl14⟩) (c14 : PySem.W.codeIn K cd14 "_law_value" = true) (k14 : PySem.W.keepIn K (.ref f14) = true)
    (a15 : PySem.W.nsIn K mainGlobals "_law_own_value" = some (some (.ref f15)))
    (l15 : K.lookup f15 = some ⟨oc15, od15, .func (PySem.W.fnOf "_law_own_value" "_law_own_value" (defArgs s__law_own_value) (defBody s__law_own_value) (defScope s__law_own_value) .none kV15 dc15 pm15 an15 cd15 ct15), sl15⟩) (c15 : PySem.W.codeIn K cd15 "_law_own_value" = true) (k15 : PySem.W.keepIn K (.ref f15) = true)
    (a16 : PySem.W.nsIn K mainGlobals "_law_spoilt" = some (some (.ref f16)))
    (l16 : K.lookup f16 = some ⟨oc16, od16, .func (PySem.W.fnOf "_law_spoilt" "_law_spoilt" (defArgs s__law_spoilt) (defBody s__law_spoilt) (defScope s__law_spoilt) .none kV16 dc16 pm16 an16 cd16 ct16), sl16⟩) (c16 : PySem.W.codeIn K cd16 "_law_spoilt" = true) (k16 : PySem.W.keepIn K (.ref f16) = true)
    (a17 : PySem.W.nsIn K mainGlobals "_law_deep" = some (some (.ref f17)))
    (l17 : K.lookup f17 = some ⟨oc17, od17, .func (PySem.W.fnOf "_law_deep" "_law_deep" (defArgs s__law_deep) (defBody s__law_deep) (defScope s__law_deep) .none kV17 dc17 pm17 an17 cd17 ct17), sl17⟩) (c17 : PySem.W.codeIn K cd17 "_law_deep" = true) (k17 : PySem.W.keepIn K (.ref f17) = true)
    (a18 : PySem.W.nsIn K mainGlobals "_law_grown" = some (some (.ref f18)))
    (l18 : K.lookup f18 = some ⟨oc18, od18, .func (PySem.W.fnOf "_law_grown" "_law_grown" (defArgs s__law_grown) (defBody s__law_grown) (defScope s__law_grown) .none kV18 dc18 pm18 an18 cd18 ct18), sl18⟩) (c18 : PySem.W.codeIn K cd18 "_law_grown" = true) (k18 : PySem.W.keepIn K (.ref f18) = true)
    (a19 : PySem.W.nsIn K mainGlobals "law" = some (some (.ref f19)))
    (l19 : K.lookup f19 = some ⟨oc19, od19, .func (PySem.W.fnOf "law" "law" (defArgs s_law) (defBody s_law) (defScope s_law) .none kV19 dc19 pm19 an19 cd19 ct19), sl19⟩) (c19 : PySem.W.codeIn K cd19 "law" = true) (k19 : PySem.W.keepIn K (.ref f19) = true)
    (z_INT : PySem.W.nsIn K mainGlobals "INT" = some (some (.ref C_INT))) (y_INT : GD.rdK K 14 (.ref C_INT) = some INT_D)
    (z_UNIT : PySem.W.nsIn K mainGlobals "UNIT" = some (some (.ref C_UNIT))) (y_UNIT : GD.rdK K 14 (.ref C_UNIT) = some UNIT_D)
    (z_EXN : PySem.W.nsIn K mainGlobals "EXN" = some (some (.ref C_EXN))) (y_EXN : GD.rdK K 14 (.ref C_EXN) = some EXN_D)
    (z_BASIS : PySem.W.nsIn K mainGlobals "BASIS" = some (some (.ref C_BASIS))) (y_BASIS : GD.rdK K 14 (.ref C_BASIS) = some BASIS_D)
    (zn_bool : PySem.W.nsIn K mainGlobals "bool" = some none)
    (zn_int : PySem.W.nsIn K mainGlobals "int" = some none)
    (zn_isinstance : PySem.W.nsIn K mainGlobals "isinstance" = some none)
    (zn_len : PySem.W.nsIn K mainGlobals "len" = some none)
    (zn_list : PySem.W.nsIn K mainGlobals "list" = some none)
    (zn_range : PySem.W.nsIn K mainGlobals "range" = some none)
    (zn_tuple : PySem.W.nsIn K mainGlobals "tuple" = some none)
    (zn_zip : PySem.W.nsIn K mainGlobals "zip" = some none)
    : ∃ fd : FuncData, (∀ (s : Shared) (v : Value), BindsTo s fd ⟨[v], []⟩ [("script", v)]) ∧ ∀ base : Heap, K.In base → base.Ns mainGlobals mg → FnOk l.prog w K mg base CX0 196 fa fd ["script"] (spLaw K) := by
  have e := hfa.symm.trans (PySem.W.mg_of X G a19)
  cases e
  have F0 := fun_mk (st := s_direct_parts) l0 c0 k0
  have b0 := F0.binds (ps := ["shape"]) fun _ _ _ _ _ _ us hl => match us, hl with | [_], _ => rfl
  have F1 := fun_mk (st := s_with_parts) l1 c1 k1
  have b1 := F1.binds (ps := ["shape", "new_parts"]) fun _ _ _ _ _ _ us hl => match us, hl with | [_, _], _ => rfl
  have F2 := fun_mk (st := s_replace_variables) l2 c2 k2
  have b2 := F2.binds (ps := ["shape", "mapping"]) fun _ _ _ _ _ _ us hl => match us, hl with | [_, _], _ => rfl
  have F3 := fun_mk (st := s_constructor_entries) l3 c3 k3
  have b3 := F3.binds (ps := ["entries"]) fun _ _ _ _ _ _ us hl => match us, hl with | [_], _ => rfl
  have F4 := fun_mk (st := s_constructors_of) l4 c4 k4
  have b4 := F4.binds (ps := ["entries", "stamp"]) fun _ _ _ _ _ _ us hl => match us, hl with | [_, _], _ => rfl
  have F5 := fun_mk (st := s_agrees_with_entry) l5 c5 k5
  have b5 := F5.binds (ps := ["entries", "entry", "args", "value", "store", "depth"]) fun _ _ _ _ _ _ us hl => match us, hl with | [_, _, _, _, _, _], _ => rfl
  have F6 := fun_mk (st := s_agrees_with_constructor) l6 c6 k6
  have b6 := F6.binds (ps := ["entries", "shape", "value", "store", "depth"]) fun _ _ _ _ _ _ us hl => match us, hl with | [_, _, _, _, _], _ => rfl
  have F7 := fun_mk (st := s_agrees) l7 c7 k7
  have b7 := F7.binds (ps := ["entries", "shape", "value", "store", "depth"]) fun _ _ _ _ _ _ us hl => match us, hl with | [_, _, _, _, _], _ => rfl
  have F8 := fun_mk (st := s__law_box) l8 c8 k8
  have b8 := F8.binds (ps := ["script", "nodes"]) fun _ _ _ _ _ _ us hl => match us, hl with | [_, _], _ => rfl
  have F9 := fun_mk (st := s__law_load) l9 c9 k9
  have b9 := F9.binds (ps := ["box"]) fun _ _ _ _ _ _ us hl => match us, hl with | [_], _ => rfl
  have F10 := fun_mk (st := s__law_draw) l10 c10 k10
  have b10 := F10.binds (ps := ["box", "many"]) fun _ _ _ _ _ _ us hl => match us, hl with | [_, _], _ => rfl
  have F11 := fun_mk (st := s__law_entries) l11 c11 k11
  have b11 := F11.binds (ps := ["hidden"]) fun _ _ _ _ _ _ us hl => match us, hl with | [_], _ => rfl
  have F12 := fun_mk (st := s__law_shape) l12 c12 k12
  have b12 := F12.binds (ps := ["box", "deep"]) fun _ _ _ _ _ _ us hl => match us, hl with | [_, _], _ => rfl
  have F13 := fun_mk (st := s__law_stored) l13 c13 k13
  have b13 := F13.binds (ps := ["store", "value"]) fun _ _ _ _ _ _ us hl => match us, hl with | [_, _], _ => rfl
  have F14 := fun_mk (st := s__law_value) l14 c14 k14
  have b14 := F14.binds (ps := ["box", "shape", "store", "deep"]) fun _ _ _ _ _ _ us hl => match us, hl with | [_, _, _, _], _ => rfl
  have F15 := fun_mk (st := s__law_own_value) l15 c15 k15
  have b15 := F15.binds (ps := ["box", "shape", "store", "deep"]) fun _ _ _ _ _ _ us hl => match us, hl with | [_, _, _, _], _ => rfl
  have F16 := fun_mk (st := s__law_spoilt) l16 c16 k16
  have b16 := F16.binds (ps := ["box", "value", "store"]) fun _ _ _ _ _ _ us hl => match us, hl with | [_, _, _], _ => rfl
  have F17 := fun_mk (st := s__law_deep) l17 c17 k17
  have b17 := F17.binds (ps := ["box"]) fun _ _ _ _ _ _ us hl => match us, hl with | [_], _ => rfl
  have F18 := fun_mk (st := s__law_grown) l18 c18 k18
  have b18 := F18.binds (ps := ["box"]) fun _ _ _ _ _ _ us hl => match us, hl with | [_], _ => rfl
  have F19 := fun_mk (st := s_law) l19 c19 k19
  have b19 := F19.binds (ps := ["script"]) fun _ _ _ _ _ _ us hl => match us, hl with | [_], _ => rfl
  have T : Txt K mg { f_direct_parts := f0, d_direct_parts := _, f_with_parts := f1, d_with_parts := _, f_replace_variables := f2, d_replace_variables := _, f_constructor_entries := f3, d_constructor_entries := _, f_constructors_of := f4, d_constructors_of := _, f_agrees_with_entry := f5, d_agrees_with_entry := _, f_agrees_with_constructor := f6, d_agrees_with_constructor := _, f_agrees := f7, d_agrees := _, f__law_box := f8, d__law_box := _, f__law_load := f9, d__law_load := _, f__law_draw := f10, d__law_draw := _, f__law_entries := f11, d__law_entries := _, f__law_shape := f12, d__law_shape := _, f__law_stored := f13, d__law_stored := _, f__law_value := f14, d__law_value := _, f__law_own_value := f15, d__law_own_value := _, f__law_spoilt := f16, d__law_spoilt := _, f__law_deep := f17, d__law_deep := _, f__law_grown := f18, d__law_grown := _, f_law := fa, d_law := _, c_INT := C_INT, c_UNIT := C_UNIT, c_EXN := C_EXN, c_BASIS := C_BASIS } := { F_direct_parts := F0, b_direct_parts := b0, g_direct_parts := PySem.W.mg_of X G a0, F_with_parts := F1, b_with_parts := b1, g_with_parts := PySem.W.mg_of X G a1, F_replace_variables := F2, b_replace_variables := b2, g_replace_variables := PySem.W.mg_of X G a2, F_constructor_entries := F3, b_constructor_entries := b3, g_constructor_entries := PySem.W.mg_of X G a3, F_constructors_of := F4, b_constructors_of := b4, g_constructors_of := PySem.W.mg_of X G a4, F_agrees_with_entry := F5, b_agrees_with_entry := b5, g_agrees_with_entry := PySem.W.mg_of X G a5, F_agrees_with_constructor := F6, b_agrees_with_constructor := b6, g_agrees_with_constructor := PySem.W.mg_of X G a6, F_agrees := F7, b_agrees := b7, g_agrees := PySem.W.mg_of X G a7, F__law_box := F8, b__law_box := b8, g__law_box := PySem.W.mg_of X G a8, F__law_load := F9, b__law_load := b9, g__law_load := PySem.W.mg_of X G a9, F__law_draw := F10, b__law_draw := b10, g__law_draw := PySem.W.mg_of X G a10, F__law_entries := F11, b__law_entries := b11, g__law_entries := PySem.W.mg_of X G a11, F__law_shape := F12, b__law_shape := b12, g__law_shape := PySem.W.mg_of X G a12, F__law_stored := F13, b__law_stored := b13, g__law_stored := PySem.W.mg_of X G a13, F__law_value := F14, b__law_value := b14, g__law_value := PySem.W.mg_of X G a14, F__law_own_value := F15, b__law_own_value := b15, g__law_own_value := PySem.W.mg_of X G a15, F__law_spoilt := F16, b__law_spoilt := b16, g__law_spoilt := PySem.W.mg_of X G a16, F__law_deep := F17, b__law_deep := b17, g__law_deep := PySem.W.mg_of X G a17, F__law_grown := F18, b__law_grown := b18, g__law_grown := PySem.W.mg_of X G a18, F_law := F19, b_law := b19, g_law := PySem.W.mg_of X G a19, g_INT := PySem.W.mg_of X G z_INT, y_INT := fun H => GD.rdK_ref y_INT H, g_UNIT := PySem.W.mg_of X G z_UNIT, y_UNIT := fun H => GD.rdK_ref y_UNIT H, g_EXN := PySem.W.mg_of X G z_EXN, y_EXN := fun H => GD.rdK_ref y_EXN H, g_BASIS := PySem.W.mg_of X G z_BASIS, y_BASIS := fun H => GD.rdK_ref y_BASIS H, n_bool := PySem.W.mg_none_of X G zn_bool, n_int := PySem.W.mg_none_of X G zn_int, n_isinstance := PySem.W.mg_none_of X G zn_isinstance, n_len := PySem.W.mg_none_of X G zn_len, n_list := PySem.W.mg_none_of X G zn_list, n_range := PySem.W.mg_none_of X G zn_range, n_tuple := PySem.W.mg_none_of X G zn_tuple, n_zip := PySem.W.mg_none_of X G zn_zip }
  exact ⟨_, fun s v => .of_eq rfl, fun base _ _ => ok_law T⟩
theorem walk {l : PySem.W.OpenLaw} {q : Program} {loose : List Str} {XP : (Str → Option Value) → Heap → Prop} {YP : World → Heap → Prop} {d : DefRec} {K : Params → PySem.W.Frag} (hn : l.most = some 63) (hdf : d.params.defaults = [])
    (hY : ∀ (w : World) (h : Heap), YP w h → (K w.params).In h)
    (F : ∀ (w : World) (mg : Str → Option Value) (fa : Addr) (h : Heap), (K w.params).In h → h.Ns mainGlobals mg → mg d.name = some (.ref fa) →
      ∃ fd : FuncData, (∀ (s : Shared) (u : Value), BindsTo s fd ⟨[u], []⟩ [("script", u)]) ∧ ∀ base : Heap, (K w.params).In base → base.Ns mainGlobals mg → FnOk l.prog w (K w.params) mg base CX0 196 fa fd ["script"] (spLaw (K w.params))) :
    PySem.W.WalkO q loose XP YP l.row.toRowW d [] (fun f vs => PySem.call f vs) :=
  L2.walk_of (n := 63) (k := 196) (x := "script") (CX := fun _ => CX0) (sp := fun w => spLaw (K w.params)) hn (by decide) hdf ⟨rfl, by decide, by decide⟩ hY F (fun _ _ a ns hl _ hS => ⟨a, ns, rfl, hS, hl, fun _ => rfl⟩) fun _ _ _ _ _ z => z
end K88
open PySem PySem.W PyProof.Rows in
set_option maxRecDepth 100000 in
set_option maxHeartbeats 0 in
theorem PySem.Challenge.cw_shapewright_k88_values_agree_holds : PySem.Challenge.rw_shapewright_k88_values_agree.Holds := by
  w_on; o_law; k_head; (case hw => w_witness2)
  k_fill
  refine K88.walk (l := PySem.Challenge.rw_shapewright_k88_values_agree) rfl rfl (fun w h Y => PySem.W.kIn_of Y) ?F
  case F =>
    intro w mg fa h KX G hmg
    refine' K88.all_mk KX G hmg ?a0 ?l0 ?c0 ?k0 ?a1 ?l1 ?c1 ?k1 ?a2 ?l2 ?c2 ?k2 ?a3 ?l3 ?c3 ?k3 ?a4 ?l4 ?c4 ?k4 ?a5 ?l5 ?c5 ?k5 ?a6 ?l6 ?c6 ?k6 ?a7 ?l7 ?c7 ?k7 ?a8 ?l8 ?c8 ?k8 ?a9 ?l9 ?c9 ?k9 ?a10 ?l10 ?c10 ?k10 ?a11 ?l11 ?c11 ?k11 ?a12 ?l12 ?c12 ?k12 ?a13 ?l13 ?c13 ?k13 ?a14 ?l14 ?c14 ?k14 ?a15 ?l15 ?c15 ?k15 ?a16 ?l16 ?c16 ?k16 ?a17 ?l17 ?c17 ?k17 ?a18 ?l18 ?c18 ?k18 ?a19 ?l19 ?c19 ?k19 ?z_INT ?y_INT ?z_UNIT ?y_UNIT ?z_EXN ?y_EXN ?z_BASIS ?y_BASIS ?zn_bool ?zn_int ?zn_isinstance ?zn_len ?zn_list ?zn_range ?zn_tuple ?zn_zip
    (case a0 => k_is)
    (case l0 => k_is)
    (case c0 => k_is)
    (case k0 => k_is)
    (case a1 => k_is)
    (case l1 => k_is)
    (case c1 => k_is)
    (case k1 => k_is)
    (case a2 => k_is)
    (case l2 => k_is)
    (case c2 => k_is)
    (case k2 => k_is)
    (case a3 => k_is)
    (case l3 => k_is)
    (case c3 => k_is)
    (case k3 => k_is)
    (case a4 => k_is)
    (case l4 => k_is)
    (case c4 => k_is)
    (case k4 => k_is)
    (case a5 => k_is)
    (case l5 => k_is)
    (case c5 => k_is)
    (case k5 => k_is)
    (case a6 => k_is)
    (case l6 => k_is)
    (case c6 => k_is)
    (case k6 => k_is)
    (case a7 => k_is)
    (case l7 => k_is)
    (case c7 => k_is)
    (case k7 => k_is)
    (case a8 => k_is)
    (case l8 => k_is)
    (case c8 => k_is)
    (case k8 => k_is)
    (case a9 => k_is)
    (case l9 => k_is)
    (case c9 => k_is)
    (case k9 => k_is)
    (case a10 => k_is)
    (case l10 => k_is)
    (case c10 => k_is)
    (case k10 => k_is)
    (case a11 => k_is)
    (case l11 => k_is)
    (case c11 => k_is)
    (case k11 => k_is)
    (case a12 => k_is)
    (case l12 => k_is)
    (case c12 => k_is)
    (case k12 => k_is)
    (case a13 => k_is)
    (case l13 => k_is)
    (case c13 => k_is)
    (case k13 => k_is)
    (case a14 => k_is)
    (case l14 => k_is)
    (case c14 => k_is)
    (case k14 => k_is)
    (case a15 => k_is)
    (case l15 => k_is)
    (case c15 => k_is)
    (case k15 => k_is)
    (case a16 => k_is)
    (case l16 => k_is)
    (case c16 => k_is)
    (case k16 => k_is)
    (case a17 => k_is)
    (case l17 => k_is)
    (case c17 => k_is)
    (case k17 => k_is)
    (case a18 => k_is)
    (case l18 => k_is)
    (case c18 => k_is)
    (case k18 => k_is)
    (case a19 => k_is)
    (case l19 => k_is)
    (case c19 => k_is)
    (case k19 => k_is)
    (case z_INT => k_is)
    (case y_INT => with_unfolding_all rfl)
    (case z_UNIT => k_is)
    (case y_UNIT => with_unfolding_all rfl)
    (case z_EXN => k_is)
    (case y_EXN => with_unfolding_all rfl)
    (case z_BASIS => k_is)
    (case y_BASIS => with_unfolding_all rfl)
    (case zn_bool => k_is)
    (case zn_int => k_is)
    (case zn_isinstance => k_is)
    (case zn_len => k_is)
    (case zn_list => k_is)
    (case zn_range => k_is)
    (case zn_tuple => k_is)
    (case zn_zip => k_is)
