import PyProof.Rows.All
import Wide.All
import OpenK.AllK
import Wide.FinOn
import HandS.ForMost
import HandS.CallSlots
import HandS.Wide
import HandS.IsInst
import HandS.Deep
import HandS.Evl
import HandS.Zip
import HandS.TupAny
import HandS.Style
import HandS.Iter
import HandS.SortKw
import HandS.Lambda
import HandS.EndTab
import KE.KSortKey
import KE.GoesMore
import KE.KNestM
import PySem.Challenge.RW_shapewright_k89_records_agree
set_option Elab.async false
set_option maxRecDepth 100000
set_option linter.all false
set_option maxHeartbeats 4000000
/-! trees of tuples: what a value stands for, whatever else the heap does -/
namespace GD
open PySem L2
theorem iteN {b : Bool} {A B : Prop} (h : b = false) (q : B) : if b = true then A else B := by
  subst h
  rw [if_neg (by decide)]
  exact q
theorem iteY {b : Bool} {A B : Prop} (h : b = true) (q : A) : if b = true then A else B := by
  rw [if_pos h]
  exact q
section
variable {K : PySem.W.Frag}
mutual
inductive Rp (K : PySem.W.Frag) (H : Hp) : V → PyData → Prop
  | non : Rp K H .non .none
  | bl (b : Bool) : Rp K H (.bl b) (.bool b)
  | int (i : Int) : Rp K H (.int i) (.int i)
  | str (x : Str) : PyData.strOk x = true → Rp K H (.str x) (.str x)
  | tup {a : Addr} {xs : List V} {ds : List PyData} : SqT K H a xs → RpAll K H xs ds → Rp K H (.ref a) (.tuple ds)
inductive RpAll (K : PySem.W.Frag) (H : Hp) : List V → List PyData → Prop
  | nil : RpAll K H [] []
  | cons {v : V} {vs : List V} {d : PyData} {ds : List PyData} : Rp K H v d → RpAll K H vs ds → RpAll K H (v :: vs) (d :: ds)
end
/-- the tuples stay -/
def KT (H H' : Hp) : Prop := ∀ a xs, Rd H a (.tup xs) → Rd H' a (.tup xs)
theorem KT.refl {H : Hp} : KT H H := fun _ _ h => h
theorem KT.trans {H H1 H2 : Hp} (h : KT H H1) (k : KT H1 H2) : KT H H2 := fun a xs q => k a xs (h a xs q)
theorem KT.sqt {H H' : Hp} (k : KT H H') {a : Addr} {xs : List V} (h : SqT K H a xs) : SqT K H' a xs := h.imp (k a xs) id
mutual
theorem Rp.keep {H H' : Hp} (k : KT H H') : ∀ (d : PyData) (v : V), Rp K H v d → Rp K H' v d
  | .none, _, h => by cases h; exact .non
  | .bool _, _, h => by cases h; exact .bl _
  | .int _, _, h => by cases h; exact .int _
  | .str _, _, h => by
    cases h with
    | str x hx => exact .str _ hx
  | .list _, _, h => by cases h
  | .tuple ds, _, h => by
    cases h with
    | tup s r => exact .tup (k.sqt s) (RpAll.keep k ds _ r)
  | .dict _, _, h => by cases h
theorem RpAll.keep {H H' : Hp} (k : KT H H') : ∀ (ds : List PyData) (vs : List V), RpAll K H vs ds → RpAll K H' vs ds
  | [], _, h => by cases h; exact .nil
  | d :: ds, _, h => by
    cases h with
    | cons a r => exact .cons (Rp.keep k d _ a) (RpAll.keep k ds _ r)
end
theorem Rp.on {H H' : Hp} {d : PyData} {v : V} (h : Rp K H v d) (k : KT H H') : Rp K H' v d := Rp.keep k d v h
theorem RpAll.on {H H' : Hp} {ds : List PyData} {vs : List V} (h : RpAll K H vs ds) (k : KT H H') : RpAll K H' vs ds := RpAll.keep k ds vs h
mutual
theorem Rp.dp' {H : Hp} : ∀ (d : PyData) (v : V), Rp K H v d → Dp K H v d
  | .none, _, h => by cases h; exact .non
  | .bool _, _, h => by cases h; exact .bl _
  | .int _, _, h => by cases h; exact .int _
  | .str _, _, h => by cases h; exact .str _
  | .list _, _, h => by cases h
  | .tuple ds, _, h => by
    cases h with
    | tup s r => exact .tup s (RpAll.dp' ds _ r)
  | .dict _, _, h => by cases h
theorem RpAll.dp' {H : Hp} : ∀ (ds : List PyData) (vs : List V), RpAll K H vs ds → DpAll K H vs ds
  | [], _, h => by cases h; exact .nil
  | d :: ds, _, h => by
    cases h with
    | cons a r => exact .cons (Rp.dp' d _ a) (RpAll.dp' ds _ r)
end
theorem Rp.dp {H : Hp} {d : PyData} {v : V} (h : Rp K H v d) : Dp K H v d := Rp.dp' d v h
mutual
theorem Rp.lay' {H : Hp} : ∀ (d : PyData) (v : V), Rp K H v d → d.canLay0 = true
  | .none, _, h => by simp [PyData.canLay0]
  | .bool _, _, h => by simp [PyData.canLay0]
  | .int _, _, h => by simp [PyData.canLay0]
  | .str _, _, h => by
    cases h with
    | str x hx => simpa [PyData.canLay0] using hx
  | .list _, _, h => by cases h
  | .tuple ds, _, h => by
    cases h with
    | tup s r => simpa [PyData.canLay0] using RpAll.lay' ds _ r
  | .dict _, _, h => by cases h
theorem RpAll.lay' {H : Hp} : ∀ (ds : List PyData) (vs : List V), RpAll K H vs ds → PyData.canLayAll0 ds = true
  | [], _, h => by simp [PyData.canLayAll0]
  | d :: ds, _, h => by
    cases h with
    | cons a r => simp [PyData.canLayAll0, Rp.lay' d _ a, RpAll.lay' ds _ r]
end
theorem RpAll.length {H : Hp} : ∀ {vs : List V} {ds : List PyData}, RpAll K H vs ds → vs.length = ds.length
  | _, _, .nil => rfl
  | _, _, .cons _ r => by simp [RpAll.length r]
theorem RpAll.get {H : Hp} : ∀ {vs : List V} {ds : List PyData} {i : Nat} {d : PyData}, RpAll K H vs ds → ds[i]? = some d → ∃ v, vs[i]? = some v ∧ Rp K H v d
  | _, _, _, _, .nil, e => by simp at e
  | _, _, 0, _, .cons h _, e => by simp at e; subst e; exact ⟨_, rfl, h⟩
  | _, _, i + 1, _, .cons _ r, e => by
    obtain ⟨v, e1, h⟩ := r.get (i := i) (by simpa using e)
    exact ⟨v, by simpa using e1, h⟩
theorem RpAll.getV {H : Hp} : ∀ {vs : List V} {ds : List PyData} {i : Nat} {v : V}, RpAll K H vs ds → vs[i]? = some v → ∃ d, ds[i]? = some d ∧ Rp K H v d
  | _, _, _, _, .nil, e => by simp at e
  | _, _, 0, _, .cons h _, e => by simp at e; subst e; exact ⟨_, rfl, h⟩
  | _, _, i + 1, _, .cons _ r, e => by
    obtain ⟨v, e1, h⟩ := r.getV (i := i) (by simpa using e)
    exact ⟨v, by simpa using e1, h⟩
theorem RpAll.app {H : Hp} : ∀ {vs ws : List V} {ds es : List PyData}, RpAll K H vs ds → RpAll K H ws es → RpAll K H (vs ++ ws) (ds ++ es)
  | _, _, _, _, .nil, r => r
  | _, _, _, _, .cons h t, r => .cons h (t.app r)
theorem RpAll.take {H : Hp} : ∀ {vs : List V} {ds : List PyData} (n : Nat), RpAll K H vs ds → RpAll K H (vs.take n) (ds.take n)
  | _, _, 0, _ => by simp; exact .nil
  | _, _, n + 1, .nil => by simp; exact .nil
  | _, _, n + 1, .cons h t => by simp; exact .cons h (t.take n)
theorem RpAll.drop {H : Hp} : ∀ {vs : List V} {ds : List PyData} (n : Nat), RpAll K H vs ds → RpAll K H (vs.drop n) (ds.drop n)
  | _, _, 0, r => by simpa using r
  | _, _, n + 1, .nil => by simp; exact .nil
  | _, _, n + 1, .cons h t => by simpa using t.drop n
theorem RpAll.set {H : Hp} : ∀ {vs : List V} {ds : List PyData} (n : Nat) {v : V} {d : PyData}, RpAll K H vs ds → Rp K H v d → RpAll K H (vs.set n v) (ds.set n d)
  | _, _, _, _, _, .nil, _ => by simp; exact .nil
  | _, _, 0, _, _, .cons _ t, k => by simp; exact .cons k t
  | _, _, n + 1, _, _, .cons h t, k => by simp; exact .cons h (t.set n k)
/-! ### readings -/
theorem Rp.tup_inv {H : Hp} {v : V} {ds : List PyData} (h : Rp K H v (.tuple ds)) : ∃ a xs, v = .ref a ∧ SqT K H a xs ∧ RpAll K H xs ds := by
  cases h with
  | tup s r => exact ⟨_, _, rfl, s, r⟩
theorem Rp.str_inv {H : Hp} {v : V} {x : Str} (h : Rp K H v (.str x)) : v = .str x := by cases h; rfl
theorem Rp.int_inv {H : Hp} {v : V} {x : Int} (h : Rp K H v (.int x)) : v = .int x := by cases h; rfl
theorem Rp.non_inv {H : Hp} {v : V} (h : Rp K H v .none) : v = .non := by cases h; rfl
theorem Rp.bl_inv {H : Hp} {v : V} {b : Bool} (h : Rp K H v (.bool b)) : v = .bl b := by cases h; rfl
theorem RpAll.nil_inv {H : Hp} {vs : List V} (h : RpAll K H vs []) : vs = [] := by cases h; rfl
theorem RpAll.cons_inv {H : Hp} {vs : List V} {d : PyData} {ds : List PyData} (h : RpAll K H vs (d :: ds)) : ∃ v ws, vs = v :: ws ∧ Rp K H v d ∧ RpAll K H ws ds := by
  cases h with
  | cons a r => exact ⟨_, _, rfl, a, r⟩
theorem Rp.mk {H : Hp} {a : Addr} {xs : List V} {ds : List PyData} (s : H a = some (.tup xs)) (r : RpAll K H xs ds) : Rp K H (.ref a) (.tuple ds) := .tup (.inl (Rd.of s)) r
theorem Rp.flat {H : Hp} {d : PyData} {a : Addr} (h : Rp K H (.ref a) d) : ∃ ds, d = .tuple ds := by
  cases h with
  | tup _ _ => exact ⟨_, rfl⟩
theorem at0 {x : V} {ws : List V} : atI (x :: ws) 0 = some x := atI_nat (j := 0) rfl
theorem at1 {x y : V} {ws : List V} : atI (x :: y :: ws) 1 = some y := atI_nat (j := 1) rfl
theorem at2 {x y z : V} {ws : List V} : atI (x :: y :: z :: ws) 2 = some z := atI_nat (j := 2) rfl
theorem at3 {x y z u : V} {ws : List V} : atI (x :: y :: z :: u :: ws) 3 = some u := atI_nat (j := 3) rfl
theorem small_lt {n : Nat} (h : n < 100000) : n < sizeLine := Nat.lt_of_lt_of_le h (by decide)
theorem small_le {n : Nat} (h : n ≤ 100000) : n ≤ sizeLine := Nat.le_trans h (by decide)
/-! ### what stays -/
theorem KT.same {H H' : Hp} (h : ∀ a o, H a = some o → H' a = some o) : KT H H' := fun a xs q => by
  rcases q with q | ⟨o, q⟩
  · exact .inl (h _ _ q)
  · exact .inr ⟨o, h _ _ q⟩
theorem KT.upd_new {H : Hp} {p : Addr} {o : HO} (h : H p = none) : KT H (upd H p o) := KT.same fun a u e => by
  rw [upd_ne (ne_of_none e h)]
  exact e
/-- no tuple -/
def NT (H : Hp) (p : Addr) : Prop := ∀ xs, ¬ Rd H p (.tup xs)
theorem NT.lst {H : Hp} {p : Addr} {l : List V} (h : H p = some (.lst l)) : NT H p := fun xs q => by
  rcases q with q | ⟨o, q⟩ <;> rw [h] at q <;> cases q
theorem NT.dk {H : Hp} {p : Addr} {l : List (Key × V)} (h : H p = some (.dK l)) : NT H p := fun xs q => by
  rcases q with q | ⟨o, q⟩ <;> rw [h] at q <;> cases q
theorem KT.upd_lst {H : Hp} {p : Addr} {o : HO} (h : NT H p) : KT H (upd H p o) := fun a xs q => by
  have n : a ≠ p := fun z => by
    rw [z] at q
    exact h xs q
  unfold Rd
  rw [upd_ne n]
  exact q
/-! ### constants of the module -/
def rdK (K : PySem.W.Frag) : Nat → Value → Option PyData
  | 0, _ => none
  | n + 1, v => match v with
    | .none => some .none
    | .bool b => some (.bool b)
    | .int i _ => some (.int i)
    | .str x _ => if PyData.strOk x = true then some (.str x) else none
    | .ref a => match K.lookup a with
      | some ⟨.type "tuple", _, .seq its _, _⟩ => if its.size ≤ sizeLine then (its.toList.mapM (rdK K n)).map .tuple else none
      | _ => none
    | _ => none
theorem rdAll {n : Nat} (ih : ∀ v d, rdK K n v = some d → ∃ x, RelV x v ∧ ∀ H, Rp K H x d) : ∀ (us : List Value) (ds : List PyData), us.mapM (rdK K n) = some ds → ∃ xs, Vals xs us ∧ ∀ H, RpAll K H xs ds
  | [], ds, e => by
    simp at e
    subst e
    exact ⟨[], .nil, fun _ => .nil⟩
  | u :: us, ds, e => by
    rw [List.mapM_cons] at e
    cases e1 : rdK K n u with
    | none => rw [e1] at e; cases e
    | some d =>
      rw [e1] at e
      cases e2 : us.mapM (rdK K n) with
      | none => simp [e2] at e
      | some ds' =>
        simp [e2] at e
        subst e
        obtain ⟨x, r, k⟩ := ih _ _ e1
        obtain ⟨xs, rs, ks⟩ := rdAll ih us ds' e2
        exact ⟨x :: xs, .cons r rs, fun H => .cons (k H) (ks H)⟩
theorem rdK_ok : ∀ (n : Nat) (v : Value) (d : PyData), rdK K n v = some d → ∃ x, RelV x v ∧ ∀ H, Rp K H x d
  | 0, _, _, e => by cases e
  | n + 1, v, d, e => by
    unfold rdK at e
    split at e
    · cases e; exact ⟨.non, rfl, fun _ => .non⟩
    · cases e; exact ⟨.bl _, rfl, fun _ => .bl _⟩
    · cases e; exact ⟨.int _, ⟨_, rfl⟩, fun _ => .int _⟩
    · split at e
      · rename_i h
        cases e
        exact ⟨.str _, ⟨_, rfl⟩, fun _ => .str _ h⟩
      · cases e
    · rename_i a
      split at e
      · rename_i dd its nn sl hl
        split at e
        · rename_i hs
          cases e1 : its.toList.mapM (rdK K n) with
          | none => rw [e1] at e; cases e
          | some ds =>
            rw [e1] at e
            cases e
            obtain ⟨xs, rs, ks⟩ := rdAll (rdK_ok n) _ _ e1
            exact ⟨.ref a, rfl, fun H => .tup (.inr ⟨_, its, nn, hl, rfl, rfl, hs, rs⟩) (ks H)⟩
        · cases e
      · cases e
    · cases e
theorem rdK_ref {n : Nat} {a : Addr} {d : PyData} (e : rdK K n (.ref a) = some d) (H : Hp) : Rp K H (.ref a) d := by
  obtain ⟨x, r, k⟩ := rdK_ok n _ d e
  cases x <;> first
    | (cases r; exact k H)
    | (cases r; done)
    | (obtain ⟨t, r⟩ := r; cases r)
end
/-! ### == where one side is small -/
section
variable {X : Cx}
/-- x == y, y a small datum -/
def rEqS (K : PySem.W.Frag) : R2 := fun x y H Q => ∃ d e, Rp K H x d ∧ Rp K H y e ∧ e.depth ≤ 60 ∧ Q (.bl (PyData.eqv d e)) H
def rNeS (K : PySem.W.Frag) : R2 := fun x y H Q => ∃ d e, Rp K H x d ∧ Rp K H y e ∧ e.depth ≤ 60 ∧ Q (.bl (!PyData.eqv d e)) H
theorem op_eqS (hu : X.A.units + 64 < cLine) : OpR X (compareOp .Eq) (rEqS X.K) := by
  intro pins s σ H x y v u Q I rx ry h
  obtain ⟨d, e, hd, he, hs, q⟩ := h
  obtain ⟨as, r1⟩ := Dp.reads I d x v hd.dp rx
  obtain ⟨bs, r2⟩ := Dp.reads I e y u he.dp ry
  exact SeqAt.compareEq_reads r1 r2 (Rp.lay' _ _ hd) (Rp.lay' _ _ he) (by have := Nat.min_le_right d.depth e.depth; omega) ⟨.bl _, H, I, rfl, q⟩
end
end GD

set_option Elab.async false
set_option maxRecDepth 100000
set_option linter.all false
set_option maxHeartbeats 4000000
/-! sorted(xs, key=lambda x: x[1]), the items tuples with a text there -/
namespace KSt
open PySem PySem.Spec PyProof.Rows L2 Srt SrtO LamX
inductive Keys (KR : Value → Value → Prop) : List Value → List Value → Prop
  | nil : Keys KR [] []
  | cons {v k : Value} {vs ks : List Value} : KR v k → Keys KR vs ks → Keys KR (v :: vs) (k :: ks)
theorem Keys.len {KR : Value → Value → Prop} : ∀ {vs ks : List Value}, Keys KR vs ks → ks.length = vs.length
  | _, _, .nil => rfl
  | _, _, .cons _ r => by simp [Keys.len r]
theorem Keys.snoc {KR : Value → Value → Prop} {v k : Value} (h : KR v k) : ∀ {vs ks : List Value}, Keys KR vs ks → Keys KR (vs ++ [v]) (ks ++ [k])
  | _, _, .nil => .cons h .nil
  | _, _, .cons a r => .cons a (Keys.snoc h r)
theorem Keys.zip {KR : Value → Value → Prop} : ∀ {vs ks : List Value}, Keys KR vs ks → ∀ p ∈ ks.zip vs, KR p.2 p.1
  | _, _, .nil, p, h => by simp at h
  | _, _, .cons a r, p, h => by
    simp only [List.zip_cons_cons] at h
    rcases List.mem_cons.mp h with e | h
    · rw [e]; exact a
    · exact r.zip p h
abbrev Kp0 (h h' : Heap) : Prop := ∀ b o, h.get? b = some o → h'.get? b = some o
section
variable {prog : Program} {w : World} {A : Around} {E : Value → Shared → Prop} {s : Shared}
theorem rest_key {f : Value} {a kS : Addr} {vs : List Value} {base : Heap} {KR : Value → Value → Prop} {e1 : Nat} {P : PySem.Fin → Shared → Prop} {lt : Keyed → Keyed → Bool}
    (hz : vs.length ≤ sizeLine) (O : Swo lt) (hb : ∀ b o, base.get? b = some o → b ≠ a ∧ b ≠ kS ∧ s.heap.get? b = some o) (hka : kS ≠ a)
    (ha : s.heap.get? a = some (seqObj "list" #[] e1)) (hk : s.heap.get? kS = some (seqObj "list" #[] 0))
    (turn : ∀ v ∈ vs, ∀ (h : Heap) (tk : Nat), Kp0 base h → wpAny (model prog w) A (call f [v]) (fun u s' => ∃ (h' : Heap) (tk' : Nat), s' = { s with heap := h', toks := tk' } ∧ KR v u ∧ Kp0 h h') (fun _ _ => False) { s with heap := h, toks := tk })
    (hS : ∀ ks : List Value, Keys KR vs ks → 2 ≤ vs.length → ∀ (h : Heap) (tk : Nat), Kp0 base h → ∃ κ,
      (∀ (Q : SortKind → Shared → Prop) (E : Value → Shared → Prop), Q κ { s with heap := h, toks := tk } → wpAny (model prog w) A (keyKind' ks.toArray) Q E { s with heap := h, toks := tk }) ∧ Cmp prog w A { s with heap := h, toks := tk } κ (fun p => p.1 ∈ ks) lt)
    (h : ∀ (h' : Heap) (tk : Nat) (ks : List Value) (xs : Array Keyed) (c : Nat), Kp0 base h' → h'.get? a = some (seqObj "list" (xs.map (·.2)) c) → Keys KR vs ks → Srtd lt xs.toList → Stb lt xs.toList (ks.zip vs) → P (.done (.ret .none)) { s with heap := h', toks := tk }) :
    wpAny (model prog w) A (ksk_rest a f false vs.toArray e1 (.ref kS)) P E s := by
  unfold ksk_rest
  refine wpAny_bind (wpAny_rule ?_)
  first
    | rw [List.forIn_toArray]
    | (rw [← Array.forIn_toList]; simp only [List.toList_toArray])
    | rw [← Array.forIn_toList]
  refine wpAny_bind (ksk_fold (fun i s' => ∃ (h' : Heap) (tk : Nat) (kA : Array Value) (e : Nat), s' = { s with heap := h', toks := tk } ∧ Kp0 base h' ∧ h'.get? a = some (seqObj "list" #[] e1) ∧ h'.get? kS = some (seqObj "list" kA e) ∧ Keys KR (vs.take i) kA.toList) vs 0 s
    ⟨s.heap, s.toks, #[], 0, rfl, fun b o e => (hb b o e).2.2, ha, hk, by simp; exact .nil⟩ ?step ?done)
  case step =>
    rintro j x s' hx ⟨h', tk, kA, e, rfl, hk1, ha1, hk2, hks⟩
    simp only [Nat.zero_add] at hks ⊢
    have hj : j < vs.length := (List.getElem?_eq_some_iff.mp hx).1
    have hsz : kA.size ≤ vs.length := by
      have h1 := hks.len
      rw [Array.length_toList, List.length_take] at h1
      omega
    refine wpAny_bind (wpAny_attempt (wpAny_mono (turn x (List.mem_of_getElem? hx) h' tk hk1) (fun v s'' he => ?_) fun _ _ hF => hF.elim))
    obtain ⟨g, tk2, rfl, hkr, hkp⟩ := he
    try dsimp only
    have s1 := Heap.SameBut.update g kS (Obj.mapSeq (·.push v))
    obtain ⟨c2, hc2⟩ : ∃ c2, (g.update kS (Obj.mapSeq (·.push v))).get? kS = some (seqObj "list" (kA.push v) c2) := ⟨_, get?_update_seq (hkp _ _ hk2) (·.push v)⟩
    refine wpAny_bind (listUpdate_at (hkp _ _ hk2) rfl ?_ (by omega) (Nat.le_trans (Nat.le_of_eq (Array.size_push ..)) (by omega)))
    refine wpAny_pure ⟨rfl, _, _, kA.push v, c2, rfl, fun b o q => ?_, ?_, hc2, ?_⟩
    · exact (s1.2 b (hb b o q).2.1).trans (hkp _ _ (hk1 _ _ q))
    · exact (s1.2 a hka.symm).trans (hkp _ _ ha1)
    · have et : vs.take (j + 1) = vs.take j ++ [x] := by rw [List.take_add_one, hx]; rfl
      rw [et, Array.toList_push]
      exact hks.snoc hkr
  case done =>
    rintro s' ⟨h', tk, kA, e, rfl, hk1, ha1, hk2, hks⟩
    have e3 : vs.take (0 + vs.length) = vs := List.take_of_length_le (by omega)
    rw [e3] at hks
    have hkl : kA.size = vs.length := by have := hks.len; rwa [Array.length_toList] at this
    try dsimp only
    refine wpAny_bind (listItems_at hk2 rfl ?_)
    have hzip : (kA.zip vs.toArray).toList = kA.toList.zip vs := ksk_zip kA vs
    have hzs : (kA.zip vs.toArray).size = vs.length := by rw [Array.size_zip, hkl, List.size_toArray, Nat.min_self]
    have tail : ∀ st : SortSt, Srtd lt (arrOf st).toList → Stb lt (arrOf st).toList (kA.toList.zip vs) → failedOf st = none →
        wpAny (model prog w) A (ksk_tail a false e1 (.ref kS) st) P E { s with heap := h', toks := tk } := by
      intro st q1 q2 q3
      have hl : (arrOf st).size = vs.length := by
        have := q2.perm.length_eq
        rw [Array.length_toList, List.length_zip, Array.length_toList, hkl, Nat.min_self] at this
        exact this
      have s1 := Heap.SameBut.update h' kS (Obj.mapSeq fun _ => (#[] : Array Value))
      have na1 : (h'.update kS (Obj.mapSeq fun _ => (#[] : Array Value))).get? a = some (seqObj "list" #[] e1) := (s1.2 a hka.symm).trans ha1
      have s2 := Heap.SameBut.update (h'.update kS (Obj.mapSeq fun _ => (#[] : Array Value))) a (Obj.mapSeq fun _ => (arrOf st).map (·.2))
      obtain ⟨c2, hc2⟩ : ∃ c2, ((h'.update kS (Obj.mapSeq fun _ => (#[] : Array Value))).update a (Obj.mapSeq fun _ => (arrOf st).map (·.2))).get? a = some (seqObj "list" ((arrOf st).map (·.2)) c2) := ⟨_, get?_update_seq na1 fun _ => (arrOf st).map (·.2)⟩
      unfold ksk_tail
      try dsimp only
      refine wpAny_bind (listUpdate_at hk2 rfl ?_ (by omega) (Nat.zero_le _))
      refine wpAny_bind (wpAny_letGo ?_)
      refine wpAny_bind (seqEpoch_at na1 rfl ?_)
      refine wpAny_bind (listUpdate_at na1 rfl ?_ (Nat.zero_le _) (by simp only [Bool.false_eq_true, if_false, Array.size_map]; omega))
      rw [q3]
      simp only [bne_self_eq_false, Bool.false_eq_true, if_false]
      refine wpAny_pure (h _ _ kA.toList (arrOf st) c2 (fun b o q => ?_) hc2 hks q1 q2)
      obtain ⟨n1, n2, _⟩ := hb b o q
      exact (s2.2 b n1).trans ((s1.2 b n2).trans (hk1 _ _ q))
    unfold ksk_end
    simp only [Bool.false_eq_true, if_false]
    by_cases h2 : vs.toArray.size < 2
    · rw [if_pos h2, if_pos h2]
      refine wpAny_bind (wpAny_pure ?_)
      rw [StateT.run_pure]
      refine wpAny_bind (wpAny_pure ?_)
      try dsimp only
      refine tail (SortSt.mk' general' (kA.zip vs.toArray) #[] 7 none) ?_ ?_ rfl
      · show Srtd lt (kA.zip vs.toArray).toList
        have hlen : (kA.zip vs.toArray).toList.length < 2 := by rw [Array.length_toList, hzs]; simpa using h2
        match e5 : (kA.zip vs.toArray).toList, hlen with
        | [], _ => exact List.Pairwise.nil
        | [v], _ => exact List.pairwise_singleton _ _
        | _ :: _ :: l, q => exact absurd q (by rw [List.length_cons, List.length_cons]; omega)
      · show Stb lt (kA.zip vs.toArray).toList _
        rw [hzip]
        exact Stb.refl _
    · rw [if_neg h2, if_neg h2]
      rw [List.size_toArray] at h2
      obtain ⟨κ, hkind, hT⟩ := hS kA.toList hks (by omega) h' tk hk1
      rw [Array.toArray_toList] at hkind
      refine wpAny_bind (hkind _ _ ?_)
      have hall : AllL (fun p : Keyed => p.1 ∈ kA.toList) (kA.zip vs.toArray).toList := fun p hm => by
        rw [hzip] at hm
        obtain ⟨p1, p2⟩ := p
        exact (List.of_mem_zip hm).1
      refine wpAny_bind (wpAny_mono (wpS_sortO (st0 := SortSt.mk' κ (kA.zip vs.toArray) #[] 7 none)
        (Q := fun _ st' => Srtd lt (arrOf st').toList ∧ Stb lt (arrOf st').toList (kA.zip vs.toArray).toList ∧ failedOf st' = none) O hT rfl hall rfl rfl fun st' a1 a2 a3 => ⟨a1, a2, a3⟩) ?_ fun _ _ e => e)
      rintro ⟨⟨⟩, st'⟩ s' ⟨rfl, hp1, hp2, hf⟩
      try dsimp only
      exact tail st' hp1 (by rw [← hzip]; exact hp2) hf
theorem sorted_key {l q : Addr} {vs : List Value} {KR : Value → Value → Prop} {Q : Value → Shared → Prop} {lt : Keyed → Keyed → Bool} (hl : s.heap.IsList l vs.toArray) (hz : vs.length ≤ sizeLine) (O : Swo lt)
    (turn : ∀ v ∈ vs, ∀ (h : Heap) (tk : Nat), Kp0 s.heap h → wpAny (model prog w) A.in1.in1 (call (.ref q) [v]) (fun u s' => ∃ (h' : Heap) (tk' : Nat), s' = { s with heap := h', toks := tk' } ∧ KR v u ∧ Kp0 h h') (fun _ _ => False) { s with heap := h, toks := tk })
    (hS : ∀ ks : List Value, Keys KR vs ks → 2 ≤ vs.length → ∀ (h : Heap) (tk : Nat), Kp0 s.heap h → ∃ κ,
      (∀ (Q : SortKind → Shared → Prop) (E : Value → Shared → Prop), Q κ { s with heap := h, toks := tk } → wpAny (model prog w) A.in1.in1 (keyKind' ks.toArray) Q E { s with heap := h, toks := tk }) ∧ Cmp prog w A.in1.in1 { s with heap := h, toks := tk } κ (fun p => p.1 ∈ ks) lt)
    (h : ∀ (D : Addr) (h' : Heap) (tk : Nat) (ks : List Value) (xs : Array Keyed) (c : Nat), s.heap.objs.size ≤ D → Kp0 s.heap h' → h'.get? D = some (seqObj "list" (xs.map (·.2)) c) → Keys KR vs ks → Srtd lt xs.toList → Stb lt xs.toList (ks.zip vs) → Q (.ref D) { s with heap := h', toks := tk }) :
    wpAny (model prog w) A (call (.builtin "sorted") [.ref l] [(Str.ofString "key", .ref q)]) Q E s := by
  refine call_function_entry_kw kind_sorted plain_sorted entry_sorted (ksk_s1 _ _) ?_
  unfold Builtin.«sorted»
  refine wpAny_bind (m := checkCount "sorted" 1 1 _) (wpAny_pure ?_)
  refine wpAny_bind (collect_list hl ?_ hz)
  refine wpAny_bind (wpAny_newList ?_ hz)
  have hsz : ((s.heap.push (seqObj "list" #[] 0)).update s.heap.objs.size (Obj.mapSeq (· ++ vs.toArray))).objs.size = s.heap.objs.size + 1 := by
    rw [Heap.size_update, size_push']
  have hoL : (((s.heap.push (seqObj "list" #[] 0)).update s.heap.objs.size (Obj.mapSeq (· ++ vs.toArray))).push (seqObj "list" vs.toArray 0)).get? (s.heap.objs.size + 1) = some (seqObj "list" vs.toArray 0) := by
    rw [← hsz]; exact Heap.get?_push_size _ rfl
  have keep : ∀ b o, s.heap.get? b = some o → (((s.heap.push (seqObj "list" #[] 0)).update s.heap.objs.size (Obj.mapSeq (· ++ vs.toArray))).push (seqObj "list" vs.toArray 0)).get? b = some o := fun b o q => by
    have hlt : b < s.heap.objs.size := Heap.lt_size q
    refine Heap.get?_push_of_some _ ?_
    rw [Heap.get?_update_ne _ _ _ _ (Nat.ne_of_lt hlt)]
    exact Heap.get?_push_of_some _ q
  show wpAny _ _ _ _ _ { s with heap := ((s.heap.push (seqObj "list" #[] 0)).update s.heap.objs.size (Obj.mapSeq (· ++ vs.toArray))).push (seqObj "list" vs.toArray 0) }
  rw [hsz]
  refine wpAny_bind (wpAny_holding (wpAny_call_entry_kw slot_list_sort ⟨_, hoL, rfl⟩ entry_list_sort ?body (ksk_l1 _ _)))
  case body =>
    show wpAny (model prog w) A.in1.in1 (Builtin.«list.sort» ⟨[.ref (s.heap.objs.size + 1)], [(Str.ofString "key", .ref q)]⟩) _ _ _
    rw [ksk_t1]
    have ho := hoL
    generalize hH : ((s.heap.push (seqObj "list" #[] 0)).update s.heap.objs.size (Obj.mapSeq (· ++ vs.toArray))).push (seqObj "list" vs.toArray 0) = H0 at hoL keep ho ⊢
    have ltA : s.heap.objs.size + 1 < H0.objs.size := Heap.lt_size hoL
    obtain ⟨e1, ho1⟩ : ∃ e1, (H0.update (s.heap.objs.size + 1) (Obj.mapSeq fun _ => (#[] : Array Value))).get? (s.heap.objs.size + 1) = some (seqObj "list" #[] e1) := ⟨_, get?_update_seq hoL fun _ => #[]⟩
    have s1 := Heap.SameBut.update H0 (s.heap.objs.size + 1) (Obj.mapSeq fun _ => (#[] : Array Value))
    have hkS : ((H0.update (s.heap.objs.size + 1) (Obj.mapSeq fun _ => (#[] : Array Value))).push (seqObj "tuple" vs.toArray 0)).objs.size = H0.objs.size + 1 := by rw [size_push', Heap.size_update]
    unfold ksk_tree
    refine wpAny_bind (listItems_at hoL rfl ?_)
    refine wpAny_bind (listUpdate_at hoL rfl ?_ (by rw [List.size_toArray]; exact hz) (Nat.zero_le _))
    refine wpAny_bind (seqEpoch_at ho1 rfl ?_)
    refine wpAny_bind (wpAny_newTuple ?_ (by show vs.length ≤ _; exact hz))
    refine wpAny_bind (wpAny_newList ?_ (Nat.zero_le _))
    refine wpAny_holding ?_
    refine rest_key (s := { s with heap := ((H0.update (s.heap.objs.size + 1) (Obj.mapSeq fun _ => (#[] : Array Value))).push (seqObj "tuple" vs.toArray 0)).push (seqObj "list" #[] 0) }) (base := s.heap) (KR := KR) (lt := lt) hz O (fun b o e => ?_) ?_ ?_ ?_ turn hS
      fun h' tk ks xs c k1 k2 k3 k4 k5 => ⟨_, rfl, wpAny_pure ⟨_, rfl, h _ h' tk ks xs c (Nat.le_succ _) k1 k2 k3 k4 k5⟩⟩
    · have hlt : b < s.heap.objs.size := Heap.lt_size e
      refine ⟨Nat.ne_of_lt (Nat.lt_succ_of_lt hlt), by rw [hkS]; exact Nat.ne_of_lt (Nat.lt_trans hlt (Nat.lt_trans (Nat.lt_succ_self _) (Nat.lt_succ_of_lt ltA))), Heap.get?_push_of_some _ (Heap.get?_push_of_some _ ?_)⟩
      exact (s1.2 b (Nat.ne_of_lt (Nat.lt_succ_of_lt hlt))).trans (keep _ _ e)
    · rw [hkS]; exact Nat.ne_of_gt (Nat.lt_succ_of_lt ltA)
    · exact Heap.get?_push_of_some _ (Heap.get?_push_of_some _ ho1)
    · exact Heap.get?_push_size _ rfl
end
/-! ### text keys -/
def sv : Value → Str
  | .str x _ => x
  | _ => ⟨#[]⟩
def ltT (x y : Str) : Bool := decide (x.cps.toList < y.cps.toList)
theorem ltT_asym {x y : Str} (h : ltT x y = true) : ltT y x = false :=
  decide_eq_false fun z => List.lt_irrefl _ (List.lt_trans (of_decide_eq_true h) z)
theorem ltT_tr {x y z : Str} (h1 : ltT y x = false) (h2 : ltT z y = false) : ltT z x = false := by
  have a : ¬ y.cps.toList < x.cps.toList := of_decide_eq_false h1
  have b : ¬ z.cps.toList < y.cps.toList := of_decide_eq_false h2
  refine decide_eq_false fun c => ?_
  have a' : x.cps.toList ≤ y.cps.toList := List.not_lt.mp a
  have b' : y.cps.toList ≤ z.cps.toList := List.not_lt.mp b
  exact (List.not_lt.mpr (List.le_trans a' b')) c
def ltK2 (p q : Keyed) : Bool := ltT (sv p.1) (sv q.1)
theorem swoK2 : Swo ltK2 := ⟨fun _ _ h => ltT_asym h, fun _ _ _ h1 h2 => ltT_tr h1 h2⟩
section
variable {prog : Program} {w : World} {A : Around} {E : Value → Shared → Prop} {s : Shared}
theorem txt_cmp {ks : List Value} (h : ∀ k ∈ ks, ∃ x t, k = Value.str x t) : Cmp prog w A s oneType' (fun p => p.1 ∈ ks) ltK2 := by
  intro p q hm hm'
  obtain ⟨a, t, e⟩ := h _ hm
  obtain ⟨b, u, e'⟩ := h _ hm'
  show wpAny (model prog w) A (keyLt' oneType' p.1 q.1) (fun r s' => s' = s ∧ r = ltT (sv p.1) (sv q.1)) (fun _ _ => False) s
  rw [e, e', keyLt'_oneType]
  exact oneLt_str ⟨rfl, rfl⟩
theorem txt_strs : ∀ {ks : List Value}, (∀ k ∈ ks, ∃ x t, k = Value.str x t) → StrsAre ks (ks.map sv)
  | [], _ => .nil
  | k :: ks, h => by
    obtain ⟨x, t, e⟩ := h k List.mem_cons_self
    subst e
    exact .cons x t (txt_strs fun v hv => h v (List.mem_cons_of_mem _ hv))
/-- the lambda, called -/
theorem call_item {f c' t : Addr} {x : Str} {qual : Str} {params : Arguments} {scope : Scope} {pm ctv : Value} {p1 p2 p3 : Pos} {j : Nat} {its : List Value} {k : Str} {tk : Tok} {Q : Value → Shared → Prop}
    (hroom : A.depth < recursionLimit) (hf : s.heap.get? f = some (PySem.W.kla_obj "<lambda>" qual params (.Subscript (.Name x p1) (.Constant (.int 1) j p2) p3) scope [] pm c' ctv)) (hcd : s.heap.CodeRec (.ref c') qual) (hlim : s.heap.NoLimit)
    (hco : scope.isCoroutine = false) (hgen : scope.isGenerator = false) (hk : scope.kind = .function) (hcell : ∀ y ∈ scope.names, y.2 ≠ .cell) (hx : scope.names.lookup x = some .local) (hd : (x == ("__debug__" : Str)) = false)
    (hbind : ∀ v : Value, bindArgs (PySem.W.kla_fn "<lambda>" qual params (.Subscript (.Name x p1) (.Constant (.int 1) j p2) p3) scope [] pm (.ref c') ctv) ⟨[v], []⟩ = pure [(x, v)])
    (ht : IsTup s.heap t its.toArray) (hi : its[1]? = some (.str k tk)) (h : ∀ (h' : Heap) (tk' : Nat), Kp0 s.heap h' → Q (.str k tk) { s with heap := h', toks := tk' }) :
    wpAny (model prog w) A (call (.ref f) [.ref t]) Q E s := by
  refine wpAny_call (PySem.W.kla_callFunE hroom hf rfl hco hgen rfl hcd ?_)
  rw [hbind]
  refine wpAny_pure (wpAny_newFunctionEnv hcell (fun y hy => by rw [List.mem_singleton.mp hy]; exact hx) (fun h₁ hns hsb => ⟨hlim.fresh _ hsb, ?_⟩) hk)
  have hk₁ : Kp0 s.heap h₁ := fun b o e => hsb.extBut b o (Nat.ne_of_lt (Heap.lt_size e)) (Heap.get?_push_of_some _ e)
  show codeAny _ _ (.expr _ (PySem.W.envX qual scope s.heap.objs.size f (.ref c') [])) _ _
  refine PySem.W.kla_codeExpr ?_
  refine Subscript_Constant (wpAny_Name (wpAny_loadName_local hk hx hns (v := .ref t) (by simp) ?_) hd)
  refine wpAny_Constant_int ?_
  have hlt : 1 < its.length := (List.getElem?_eq_some_iff.mp hi).1
  exact ⟨"tuple", _, slot_tuple_getitem.lookup, (ht.keeps hk₁).typeIs, getItem_tuple (j := 1) (ht.keeps hk₁) (by decide) (by decide) (by rw [List.size_toArray]; unfold seqIndex?; simp; omega) (by simpa using hi) (h _ _ hk₁)⟩
end
/-! ### as a rule of the layer -/
/-- the keys: the items' texts at 1 -/
def tSortKey (K : PySem.W.Frag) (T : List (Addr × Str)) (t : TA) : TE := fun σ H Q => t σ H fun vs H1 => ∃ (a : Addr) (xs : List V) (ks : List Str), vs = [.ref a] ∧ SqL K H1 a xs ∧ ks.length = xs.length ∧
  (∀ (i : Nat) (x : V), xs[i]? = some x → ∃ u ws k, x = .ref u ∧ SqT K H1 u ws ∧ ws[1]? = some (.str k) ∧ ks[i]? = some k) ∧ Tabs T H1 ∧
  ∀ H2, ExtN H1 H2 → Tabs T H2 → ∀ (ps : List (Str × V)) (p : Addr), ps.Perm (ks.zip xs) → ps.Pairwise (fun p q => ltT q.1 p.1 = false) → H2 p = none → Q (.ref p) (upd H2 p (.lst (ps.map Prod.snd)))
section
variable {X : Cx}
theorem ExtN.sql {K : PySem.W.Frag} {H H' : Hp} (e : ExtN H H') {a : Addr} {xs : List V} (h : SqL K H a xs) : SqL K H' a xs := by
  rcases h with (h | ⟨o, h⟩) | h
  · exact .inl (.inl (e _ _ h (fun _ z => by cases z)))
  · exact .inl (.inr ⟨o, e _ _ h (fun _ z => by cases z)⟩)
  · exact .inr h
theorem ExtN.sqt {K : PySem.W.Frag} {H H' : Hp} (e : ExtN H H') {a : Addr} {xs : List V} (h : SqT K H a xs) : SqT K H' a xs := by
  rcases h with (h | ⟨o, h⟩) | h
  · exact .inl (.inl (e _ _ h (fun _ z => by cases z)))
  · exact .inl (.inr ⟨o, e _ _ h (fun _ z => by cases z)⟩)
  · exact .inr h
theorem pe_sortKey {T : List (Addr × Str)} {c P : Addr} {k j : Nat} {x : Str} {e : Expr} {params : Arguments} {scope : Scope} {t : TA} {p p1 p2 p3 lpos kpos pos : Pos} (hg : Gl X "sorted") (hm : X.mg "sorted" = none) (ha : PA X [e] t)
    (TB : TabB X.base X.mg c P) (hcode : X.env.code = .ref c) (hmT : (P, X.env.qual ++ "<lambda>") ∈ T) (hu : ∀ q ∈ T, q.1 = P → q.2 = X.env.qual ++ "<lambda>") (hr : Room (k + 4) X.A)
    (hdef : defaultsOf params X.env = ([], [])) (hco : scope.isCoroutine = false) (hgen : scope.isGenerator = false) (hk : scope.kind = .function) (hnm : scope.names = [(x, .local)]) (hd : (x == ("__debug__" : Str)) = false)
    (hbind : ∀ (q : Str) (pm cv ctv v : Value), bindArgs (PySem.W.kla_fn "<lambda>" q params (.Subscript (.Name x p1) (.Constant (.int 1) j p2) p3) scope [] pm cv ctv) ⟨[v], []⟩ = pure [(x, v)])
    (he : backTo pos (starEach [e] X.env) = (false, eval e X.env) :: backTo pos (starEach [] X.env) := by rfl) (hpl : (backTo pos (starEach [e] X.env)).any (·.1) = false := by rfl) :
    PE X (.Call (.Name "sorted" p) [e] [⟨some "key", .Lambda params (.Subscript (.Name x p1) (.Constant (.int 1) j p2) p3) scope lpos, kpos⟩] pos) (tSortKey X.K T t) := by
  refine ⟨fun pins s σ H Q I h => ?_⟩
  refine wpAny_Call_Name_kw (ld_blt I hg hm boot_sorted ?_)
  refine PyProof.Rows.callWith_kw (thn (ha.run pos pins s σ H _ I h) fun us s1 ⟨vs, H1, I1, r1, q1⟩ => ?_) he hpl (by rfl) (by rfl)
  refine kwAll_cons ?_
  obtain ⟨a, xs, kz, rfl, hxs, hkz, hit, hT, q⟩ := q1
  have hfree : ∀ y ∈ scope.names, y.2 = .free → ∃ c, X.env.cells.lookup y.1 = some c := fun y hy z => by
    rw [hnm] at hy
    rw [List.mem_singleton.mp hy] at z
    cases z
  refine lam_make2 I1 TB hcode hmT hu hT hdef hfree fun f c' pm ctv H2 s2 I2 eN T2 hf hfn hfr hco2 => ?_
  have ecl : cloFrom X.env.cells scope.names [] = [] := by rw [hnm]; rfl
  rw [ecl] at hf
  refine kwAll_nil ?_
  show wpAny (model X.prog X.w) X.A (call (.builtin "sorted") us [(Str.ofString "key", .ref f)]) (EP X pins σ Q) X.xe s2
  obtain rfl := Vals.ref1 r1
  obtain ⟨its, rv, hl, hz⟩ := I2.list (ExtN.sql eN hxs)
  have hil : its.length = xs.length := rv.length.symm
  have hitR : ∀ x ∈ xs, ∃ u, x = V.ref u := fun x hx => by
    obtain ⟨i, hi⟩ := List.getElem?_of_mem hx
    obtain ⟨u, _, _, e, _⟩ := hit i x hi
    exact ⟨u, e⟩
  obtain ⟨e1, e2⟩ := refs_back rv hitR
  -- the items' texts in the heap
  have hat : ∀ (i : Nat) (v : Value), its[i]? = some v → ∃ (u : Addr) (jts : List Value) (k : Str) (tk : Tok), v = .ref u ∧ IsTup s2.heap u jts.toArray ∧ jts[1]? = some (.str k tk) ∧ kz[i]? = some k := fun i v hv => by
    obtain ⟨u, rfl⟩ := e2 v (List.mem_of_getElem? hv)
    have hx : xs[i]? = some (V.ref u) := by rw [e1, List.getElem?_map, hv]; rfl
    obtain ⟨u', ws, k, eu, hsq, hk1, hkk⟩ := hit i _ hx
    cases eu
    obtain ⟨jts, jr, jt, _⟩ := I2.tuple (ExtN.sqt eN hsq)
    obtain ⟨w1, ew, rw1⟩ := jr.get hk1
    obtain ⟨tk1, rfl⟩ := rw1
    exact ⟨u, jts, k, tk1, rfl, jt, ew, hkk⟩
  obtain ⟨⟨oc, cvs, ct, hoc, hdc, hvc⟩, _, _⟩ := I2.hok c' _ hco2
  refine sorted_key (KR := fun v u => ∃ (a : Addr) (jts : List Value) (k : Str) (tk tk' : Tok), v = .ref a ∧ IsTup s2.heap a jts.toArray ∧ jts[1]? = some (.str k tk') ∧ u = Value.str k tk) (lt := ltK2) hl.isList (by rw [hil]; exact hz) swoK2 (fun v hv h tk kp => ?_) (fun ks hks h2 h tk kp => ?_) fun D h' tk ks out cc hD kp hget hks q1 q2 => ?_
  · obtain ⟨i, hi⟩ := List.getElem?_of_mem hv
    obtain ⟨u, jts, k1, tk1, rfl, jt, ew, _⟩ := hat i v hi
    have hroom : (X.A.in1.in1).depth < recursionLimit := (hr.in1.in1).depth
    refine call_item (s := { s2 with heap := h, toks := tk }) hroom (kp _ _ hf) ⟨c', oc, cvs, ct, rfl, kp _ _ hoc, hdc, hvc⟩ (I2.nolimit.keeps kp) hco hgen hk (fun y hy z => ?_) ?_ hd (hbind _ _ _ _) (jt.keeps kp) ew fun h' tk' kp' => ⟨h', tk', rfl, ⟨u, jts, k1, tk1, tk1, rfl, jt, ew, rfl⟩, kp'⟩
    · rw [hnm] at hy
      rw [List.mem_singleton.mp hy] at z
      cases z
    · rw [hnm]
      simp
  · have hst : ∀ y ∈ ks, ∃ x t, y = Value.str x t := by
      clear q
      intro y hy
      have hm3 : ∃ v, (y, v) ∈ ks.zip its := by
        obtain ⟨i, hi⟩ := List.getElem?_of_mem hy
        have hil := (List.getElem?_eq_some_iff.mp hi).1
        have hil2 : i < its.length := by rw [← hks.len]; exact hil
        refine ⟨its[i], List.mem_of_getElem? (i := i) ?_⟩
        rw [List.getElem?_zip_eq_some]
        exact ⟨hi, List.getElem?_eq_getElem hil2⟩
      obtain ⟨v, hv⟩ := hm3
      obtain ⟨_, _, k, tk, _, _, _, _, e⟩ := hks.zip _ hv
      exact ⟨_, tk, e⟩
    refine ⟨oneType', fun Q E hq => ?_, txt_cmp hst⟩
    have hS := txt_strs hst
    have hl2 : 2 ≤ ks.length := by rw [hks.len]; exact h2
    match ks, hS, hl2 with
    | v1 :: v2 :: rest, hS, _ =>
      rw [keyKind_strs hS]
      exact wpAny_pure hq
    | [], _, h => exact absurd h (by decide)
    | [v], _, h => exact absurd h (by simp)
  · have hsnd : (ks.zip its).map Prod.snd = its := List.map_snd_zip (by rw [hks.len]; exact Nat.le_refl _)
    have h3 : ∀ u ∈ (out.toList.map Prod.snd), ∃ a, u = Value.ref a := fun u hu => by
      have := (q2.perm.map Prod.snd).mem_iff.mp hu
      rw [hsnd] at this
      exact e2 u this
    have hlen : ((out.toList.map Prod.snd).map backV).length ≤ sizeLine := by
      rw [List.length_map, List.length_map, q2.perm.length_eq, ← List.length_map (f := Prod.snd), hsnd, hil]
      exact hz
    have hks2 : ks.map sv = kz := by
      refine List.ext_getElem? fun i => ?_
      rw [List.getElem?_map]
      cases hi : ks[i]? with
      | none =>
        have hh : kz[i]? = none := by
          rw [List.getElem?_eq_none_iff] at hi ⊢
          rw [hkz, ← hil, ← hks.len]
          exact hi
        rw [hh]
        rfl
      | some y =>
        have hlt := (List.getElem?_eq_some_iff.mp hi).1
        have hlt2 : i < its.length := by rw [← hks.len]; exact hlt
        have hv : its[i]? = some its[i] := List.getElem?_eq_getElem hlt2
        have hz3 : (ks.zip its)[i]? = some (y, its[i]) := by
          rw [List.getElem?_zip_eq_some]
          exact ⟨hi, hv⟩
        obtain ⟨a2, jts, k, tk, tk', e5, jt, ew, e6⟩ := hks.zip _ (List.mem_of_getElem? hz3)
        obtain ⟨u, jts2, k2, tk2, e7, jt2, ew2, hk2⟩ := hat i _ hv
        simp only at e5 e6
        rw [e7] at e5
        cases e5
        obtain ⟨o1, g1, _, n1, d1⟩ := jt
        obtain ⟨o2, g2, _, n2, d2⟩ := jt2
        rw [g1] at g2
        cases g2
        rw [d1] at d2
        injection d2 with d3 _
        have ej : jts = jts2 := by simpa using congrArg Array.toList d3
        rw [ej, ew2] at ew
        cases ew
        rw [hk2, e6]
        rfl
    have hps : (out.toList.map fun p => (sv p.1, backV p.2)).Perm (kz.zip xs) := by
      have := q2.perm.map (fun p : Keyed => (sv p.1, backV p.2))
      have e9 : (ks.zip its).map (fun p : Keyed => (sv p.1, backV p.2)) = kz.zip xs := by
        rw [← hks2, e1, List.zip_map]
        rfl
      rw [e9] at this
      exact this
    have hpw : (out.toList.map fun p => (sv p.1, backV p.2)).Pairwise (fun p q => ltT q.1 p.1 = false) := List.pairwise_map.mpr q1
    have hmm : (out.toList.map fun p => (sv p.1, backV p.2)).map Prod.snd = (out.toList.map Prod.snd).map backV := by
      rw [List.map_map, List.map_map]
      rfl
    have hq := q H2 eN T2 _ D hps hpw (I2.hok.fresh hD)
    rw [hmm] at hq
    refine ⟨.ref D, upd H2 D (.lst ((out.toList.map Prod.snd).map backV)), I2.laid (t' := tk) kp hD ⟨hlen, out.toList.map Prod.snd, cc, vals_back h3, by rw [hget, ← Array.toList_map, Array.toArray_toList]⟩, rfl, hq⟩
/-- sorted already -/
theorem sorted_same {ks : List Str} {xs : List V} {ps : List (Str × V)} (h : ps.Perm (ks.zip xs)) (hl : ks.length = xs.length) (hp : ps.Pairwise (fun p q => ltT q.1 p.1 = false)) (hs : ks.Pairwise (fun a b => ltT a b = true)) : ps.map Prod.snd = xs := by
  have hz : (ks.zip xs).Pairwise (fun p q => ltT p.1 q.1 = true) := by
    have e : ((ks.zip xs).map Prod.fst) = ks := List.map_fst_zip (by omega)
    rw [← e] at hs
    exact List.pairwise_map.mp hs
  have hk : ∀ (l m : List (Str × V)), l.Perm m → l.Pairwise (fun p q => ltT q.1 p.1 = false) → m.Pairwise (fun p q => ltT p.1 q.1 = true) → l = m := by
    intro l
    induction l with
    | nil => intro m h _ _; exact (List.Perm.eq_nil h.symm).symm
    | cons x l ih =>
      intro m h h1 h2
      cases m with
      | nil => exact absurd h.length_eq (by simp)
      | cons y m =>
        have e : x = y := by
          rcases List.mem_cons.mp (h.mem_iff.mp (List.mem_cons_self (a := x) (l := l))) with e | hx
          · exact e
          · rcases List.mem_cons.mp (h.mem_iff.mpr (List.mem_cons_self (a := y) (l := m))) with e | hy
            · exact e.symm
            · have a := (List.pairwise_cons.mp h2).1 x hx
              have b := (List.pairwise_cons.mp h1).1 y hy
              rw [a] at b
              cases b
        subst e
        rw [ih m h.cons_inv (List.pairwise_cons.mp h1).2 (List.pairwise_cons.mp h2).2]
  rw [hk _ _ h hp hz]
  exact List.map_snd_zip (by omega)
end
end KSt

set_option Elab.async false
set_option maxRecDepth 100000
set_option linter.all false
set_option maxHeartbeats 4000000
/-! tuples of data: sums and slices -/
namespace GD
open PySem L2
section
variable {K : PySem.W.Frag} {H : Hp} {Q : VK}
theorem catA_rp {x y : V} {ds es : List PyData} (hx : Rp K H x (.tuple ds)) (hy : Rp K H y (.tuple es)) (hl : ds.length + es.length ≤ sizeLine)
    (q : ∀ (r : V) (H' : Hp), (∀ a o, H a = some o → H' a = some o) → Rp K H' r (.tuple (ds ++ es)) → Q r H') : rCatA K x y H Q := by
  have hx0 := hx
  have hy0 := hy
  obtain ⟨a, xs, rfl, sx, rx⟩ := hx.tup_inv
  obtain ⟨b, ys, rfl, sy, ry⟩ := hy.tup_inv
  refine ⟨a, b, xs, ys, rfl, rfl, sx, sy, by rw [rx.length, ry.length]; exact hl, fun e => ?_, fun _ e => ?_, fun _ _ p hp => ?_⟩
  · subst e
    have : ds = [] := List.eq_nil_of_length_eq_zero (by rw [← rx.length]; rfl)
    subst this
    exact q _ H (fun _ _ e => e) (by simpa using hy0)
  · subst e
    have : es = [] := List.eq_nil_of_length_eq_zero (by rw [← ry.length]; rfl)
    subst this
    exact q _ H (fun _ _ e => e) (by simpa using hx0)
  · have kt := KT.upd_new (o := .tup (xs ++ ys)) hp
    refine q _ _ (fun c o e => by rw [upd_ne (ne_of_none e hp)]; exact e) (Rp.mk upd_same ((rx.on kt).app (ry.on kt)))
theorem slA_rp {x : V} {ds : List PyData} {lo hi : Option Int} (hx : Rp K H x (.tuple ds))
    (q : ∀ (r : V) (H' : Hp), (∀ a o, H a = some o → H' a = some o) → Rp K H' r (.tuple ((ds.drop (HT.sIx ds.length 0 lo)).take (HT.sIx ds.length ds.length hi - HT.sIx ds.length 0 lo))) → Q r H') : rSlA K x lo hi H Q := by
  have hx0 := hx
  obtain ⟨a, xs, rfl, sx, rx⟩ := hx.tup_inv
  have el := rx.length
  refine ⟨a, xs, rfl, sx, fun h => ?_, fun _ p hp => ?_⟩
  · refine q _ H (fun _ _ e => e) ?_
    rw [← el, h.1, h.2, List.drop_zero, Nat.sub_zero, el, List.take_length]
    exact hx0
  · have kt := KT.upd_new (o := .tup (cutV xs lo hi)) hp
    refine q _ _ (fun c o e => by rw [upd_ne (ne_of_none e hp)]; exact e) (Rp.mk upd_same ?_)
    have := ((rx.drop (HT.sIx xs.length 0 lo)).take (HT.sIx xs.length xs.length hi - HT.sIx xs.length 0 lo)).on kt
    rw [el] at this
    unfold cutV at this ⊢
    rw [el] at this ⊢
    exact this
theorem sIx_none (n d : Nat) : HT.sIx n d none = d := rfl
theorem sIx_nat {n d i : Nat} (h : i ≤ n) : HT.sIx n d (some (i : Int)) = i := by
  rw [HT.sIx_nat]
  omega
theorem slA_take {x : V} {ds : List PyData} {j : Int} (i : Nat) (e : j = (i : Int)) (hi : i ≤ ds.length) (hx : Rp K H x (.tuple ds))
    (q : ∀ (r : V) (H' : Hp), (∀ a o, H a = some o → H' a = some o) → Rp K H' r (.tuple (ds.take i)) → Q r H') : rSlA K x none (some j) H Q := by
  subst e
  refine slA_rp hx fun r H' s h => q r H' s ?_
  rw [sIx_none, sIx_nat hi, List.drop_zero, Nat.sub_zero] at h
  exact h
theorem slA_drop {x : V} {ds : List PyData} {j : Int} (i : Nat) (e : j = (i : Int)) (hi : i ≤ ds.length) (hx : Rp K H x (.tuple ds))
    (q : ∀ (r : V) (H' : Hp), (∀ a o, H a = some o → H' a = some o) → Rp K H' r (.tuple (ds.drop i)) → Q r H') : rSlA K x (some j) none H Q := by
  subst e
  refine slA_rp hx fun r H' s h => q r H' s ?_
  rw [sIx_none, sIx_nat hi, List.take_of_length_le (by rw [List.length_drop]; omega)] at h
  exact h
/-- the items of a list, by their data -/
theorem Rp.at_ {v : V} {ds : List PyData} {i : Nat} {d : PyData} (h : Rp K H v (.tuple ds)) (e : ds[i]? = some d) : ∃ a xs x, v = .ref a ∧ SqT K H a xs ∧ xs[i]? = some x ∧ Rp K H x d := by
  obtain ⟨a, xs, rfl, s, r⟩ := h.tup_inv
  obtain ⟨x, ex, rx⟩ := r.get e
  exact ⟨a, xs, x, rfl, s, ex, rx⟩
end
end GD

set_option Elab.async false
set_option maxRecDepth 100000
set_option linter.all false
set_option maxHeartbeats 4000000
/-! for a, b in zip(a list, a tuple) -/
namespace ZM
open PySem PySem.Spec PyProof.Rows L2
def ItzM (K : PySem.W.Frag) (a b : Addr) : It :=
  ⟨fun i H => ∃ (xs ys : List V) (x y : V), SqL K H a xs ∧ SqT K H b ys ∧ xs[i]? = some x ∧ ys[i]? = some y,
   fun i H v H' => ∃ T x y, v = .ref T ∧ H T = none ∧ H' = upd H T (.tup [x, y]) ∧ (∀ l, SqL K H a l → l[i]? = some x) ∧ ∀ l, SqT K H b l → l[i]? = some y,
   fun i H => ∃ xs ys : List V, SqL K H a xs ∧ SqT K H b ys ∧ i ≤ xs.length ∧ i ≤ ys.length ∧ (i = xs.length ∨ i = ys.length)⟩
abbrev cells (z TI TO i1 i2 : Addr) : List Addr := [z, TI, TO, i1, i2]
theorem cells_of {z TI TO i1 i2 c : Addr} (h : c ∈ cells z TI TO i1 i2) : c = z ∨ c = TI ∨ c = TO ∨ c = i1 ∨ c = i2 := by simpa using h
theorem sep_of {z TI TO i1 i2 a b : Addr} (D : ZipApart z TI TO i1 i2 a b) : ZipSep2 z TI TO i1 i2 [i1, a] [i2, b] where
  TIz := D.TIz
  TOz := D.TOz
  TITO := D.TITO
  TIi1 := D.TIi1
  mem1 := by simp
  zf1 := by simp [D.i1z.symm, D.l1z.symm]
  Tf1 := by simp [D.TOi1, D.l1TO.symm]
  TIi2 := D.TIi2
  mem2 := by simp
  zf2 := by simp [D.i2z.symm, D.l2z.symm]
  Tf2 := by simp [D.TOi2, D.l2TO.symm]
  sep1_2 := by simp [D.i12, D.l2i1.symm]
  sep2_1 := by simp [D.i12.symm, D.l1i2.symm]
structure Tn (z TI TO i1 i2 a b : Addr) (i : Nat) (h : Heap) : Prop where
  z_ : IsZip h z TI TO .none
  ti : IsTupOf2 h TI (.ref i1) (.ref i2)
  to_ : ∃ x y, IsTupOf2 h TO x y
  l1 : h.IsListIter i1 a i
  l2 : h.IsTupleIter i2 b i
theorem turn_zipM {P : Program} {w : World} {K : PySem.W.Frag} {elts : List Expr} {kk : Nat} {tpos : Pos} {a b z TI TO i1 i2 : Addr} (D : ZipApart z TI TO i1 i2 a b) :
    Turn P w K (.Tuple elts kk tpos) (ItzM K a b) (cells z TI TO i1 i2) z (Tn z TI TO i1 i2 a b) where
  mem := by simp
  obj := fun i h t c hc => by
    obtain ⟨x, y, e3⟩ := t.to_
    obtain ⟨o1, e4, _, d4⟩ := t.l1
    obtain ⟨o2, e5, _, d5⟩ := t.l2
    rcases cells_of hc with q | q | q | q | q <;> subst q
    · exact ⟨_, t.z_, nofun⟩
    · exact ⟨_, t.ti, nofun⟩
    · exact ⟨_, e3, nofun⟩
    · exact ⟨o1, e4, fun v z => by rw [d4] at z; cases z⟩
    · exact ⟨o2, e5, fun v z => by rw [d5] at z; cases z⟩
  keep := fun i h h' t k => by
    obtain ⟨x, y, e3⟩ := t.to_
    exact ⟨k z (by simp) _ t.z_, k TI (by simp) _ t.ti, ⟨x, y, k TO (by simp) _ e3⟩, t.l1.at fun o e => k i1 (by simp) o e, t.l2.at fun o e => k i2 (by simp) o e⟩
  item := by
    intro X eP ew eK hc i pins s σ H E I hf t hg
    subst eP ew eK
    obtain ⟨xs, ys, x, y, qx, qy, ex, ey⟩ := hg
    obtain ⟨us, ru, pu, _⟩ := I.list qx
    obtain ⟨vs, rv, pv, _⟩ := I.tuple qy
    obtain ⟨u, eu, rxu⟩ := ru.get ex
    obtain ⟨v, ev, ryv⟩ := rv.get ey
    obtain ⟨x0, y0, e3⟩ := t.to_
    have hh := I.ok.hd hc
    have lz : z < s.heap.objs.size := Heap.lt_size t.z_
    have l1 : i < us.toArray.size := by rw [List.size_toArray]; exact (List.getElem?_eq_some_iff.mp eu).1
    have l2 : i < vs.toArray.size := by rw [List.size_toArray]; exact (List.getElem?_eq_some_iff.mp ev).1
    refine wpAny_pyNext_zipD2_item (sep_of D) (Draws.list (A := X.A.in1) hh i1 a D.l1i1 us.toArray) (Draws.tuple (A := X.A.in1) hh i2 b D.l2i2 vs.toArray) t.z_ t.ti e3 ⟨t.l1, pu.isList⟩ ⟨t.l2, pv⟩ l1 l2
      fun u' v' h' tk eu' ev' z1 t1 s1 s2 hT hsz kp => ?_
    have euu : u' = u := by
      have := eu'.symm.trans (show us.toArray[i]? = some u by simpa using eu)
      exact Option.some.inj this
    have evv : v' = v := by
      have := ev'.symm.trans (show vs.toArray[i]? = some v by simpa using ev)
      exact Option.some.inj this
    subst euu evv
    refine ⟨_, rfl, wpAny_letOwnedTupleGo_zip (s := { s with heap := h', toks := tk }) z1 fun h2 z2 sb => ?_⟩
    have nT : s.heap.objs.size ≠ z := Nat.ne_of_gt lz
    have hT2 : h2.get? s.heap.objs.size = some { cls := .type "tuple", data := .seq #[u', v'] } := (sb.2 _ nT).trans hT
    have stay : ∀ c o, c ∉ cells z TI TO i1 i2 → s.heap.get? c = some o → h2.get? c = some o := fun c o n e =>
      (sb.2 c fun q => n (by simp [q])).trans (kp c o (fun q => n (by simp [q])) (fun q => n (by simp [q])) (fun q => n (by simp [q])) (fun q => n (by simp [q])) e)
    have J := I.turnedNew (t' := tk) (ch := cells z TI TO i1 i2) (T := s.heap.objs.size) (ob := .tup [x, y]) stay hf (Nat.le_refl _)
      ⟨show 2 ≤ sizeLine by decide, [u', v'], .cons rxu (.cons ryv .nil), ⟨_, hT2, rfl, _, rfl⟩⟩
    refine ⟨.ref s.heap.objs.size, _, J, rfl, ⟨_, x, y, rfl, I.hok.fresh (Nat.le_refl _), rfl, fun l hl => by rw [I.list_inj hl qx]; exact ex, fun l hl => by rw [I.tuple_inj hl qy]; exact ey⟩,
      ⟨z2, (sb.2 _ D.TIz).trans (kp _ _ D.TIz D.TITO D.TIi1 D.TIi2 t.ti), ⟨u', v', (sb.2 _ D.TOz).trans t1⟩, s1.1.at fun o e => (sb.2 _ D.i1z).trans e, s2.1.at fun o e => (sb.2 _ D.i2z).trans e⟩, fun c hcm => ?_⟩
    have lc : c < s.heap.objs.size := by
      obtain ⟨o1, e4, _⟩ := t.l1
      obtain ⟨o2, e5, _⟩ := t.l2
      rcases cells_of hcm with q | q | q | q | q <;> subst q
      · exact lz
      · exact Heap.lt_size t.ti
      · exact Heap.lt_size e3
      · exact Heap.lt_size e4
      · exact Heap.lt_size e5
    rw [upd_ne (Nat.ne_of_lt lc)]
    exact (hf c hcm).1
  done := by
    intro X eP ew eK hc i pins s σ H E I hf t hg
    subst eP ew eK
    obtain ⟨xs, ys, qx, qy, n1, n2, en⟩ := hg
    obtain ⟨us, ru, pu, _⟩ := I.list qx
    obtain ⟨vs, rv, pv, _⟩ := I.tuple qy
    obtain ⟨x0, y0, e3⟩ := t.to_
    have hh := I.ok.hd hc
    have e1 : us.toArray.size = xs.length := by rw [List.size_toArray]; exact ru.length.symm
    have e2 : vs.toArray.size = ys.length := by rw [List.size_toArray]; exact rv.length.symm
    refine wpAny_pyNext_zipD2_end (sep_of D) (Draws.list (A := X.A.in1) hh i1 a D.l1i1 us.toArray) (Draws.tuple (A := X.A.in1) hh i2 b D.l2i2 vs.toArray) t.z_ t.ti e3 ⟨t.l1, pu.isList⟩ ⟨t.l2, pv⟩
      (by rw [e1]; exact n1) (by rw [e2]; exact n2) (by rw [e1, e2]; exact en) fun h' tk kp => ⟨rfl, I.turnedL (t' := tk) (ch := cells z TI TO i1 i2) (fun c o n e => ?_) hf⟩
    exact kp c o (fun q => n (by simp [q])) (fun q => n (by simp [q])) (fun q => n (by simp [q])) (fun q => n (by simp [q])) e
  self := fun A i s Q E t h => wpAny_pyIter_zip t.z_ h
def iZipM (K : PySem.W.Frag) (ta : TA) : TI := fun σ H R => ta σ H fun vs H1 => ∃ a b xs ys, vs = [.ref a, .ref b] ∧ SqL K H1 a xs ∧ SqT K H1 b ys ∧ R (ItzM K a b) H1
theorem pi_zipM {X : Cx} {e e2 : Expr} {ta : TA} {p pos tpos : Pos} {elts : List Expr} {kk : Nat} (hg : Gl X "zip") (hm : X.mg "zip" = none) (ha : PA X [e, e2] ta)
    (hs : starEach [e, e2] X.env = (false, eval e X.env) :: starEach [e2] X.env := by rfl) (hpl : (backTo pos (starEach [e2] X.env)).any (·.1) = false := by rfl) :
    PI X (.Tuple elts kk tpos) (.Call (.Name "zip" p) [e, e2] [] pos) (iZipM X.K ta) := by
  refine ⟨fun pins s σ H R I h => ?_⟩
  refine Call_ (ld_blt I hg hm PyProof.Rows.boot_zip (PyProof.Rows.callWith_type1 (thn (ha.run pos pins s σ H _ I h) fun us s1 ⟨vs, H1, I1, r1, q1⟩ => ?_) hs hpl))
  obtain ⟨a, b, xs, ys, rfl, qx, qy, q⟩ := q1
  obtain ⟨u1, u2, rfl, rfl, rfl⟩ : ∃ u1 u2, us = [u1, u2] ∧ u1 = Value.ref a ∧ u2 = Value.ref b := by
    cases r1 with
    | cons r rr =>
      cases rr with
      | cons r' rr =>
        cases rr
        cases r
        cases r'
        exact ⟨_, _, rfl, rfl, rfl⟩
  obtain ⟨its, rv, p1, _⟩ := I1.list qx
  obtain ⟨jts, rw, p2, _⟩ := I1.tuple qy
  obtain ⟨o2, ho2, _⟩ := id p2
  have la : a < s1.heap.objs.size := p1.lt
  have lb : b < s1.heap.objs.size := Heap.lt_size ho2
  refine zip_begins2 (begins_list a its.toArray) (begins_tuple b jts.toArray) p1.isList p2 fun h' hz hTI hTO g1 g2 hsz hk => wpAny_pyIter_zip hz ?_
  have I2 : Inv X pins σ H1 { s1 with heap := h' } := I1.kept (t' := s1.toks) hk
  refine ⟨s1.heap.objs.size + 4, cells (s1.heap.objs.size + 4) (s1.heap.objs.size + 2) (s1.heap.objs.size + 3) s1.heap.objs.size (s1.heap.objs.size + 1), _, _, H1, rfl, I2,
    turn_zipM (PySem.W.ktu_apart s1.heap.objs.size a b la lb), ⟨hz, hTI, ⟨_, _, hTO⟩, ⟨_, g1, rfl, rfl⟩, ⟨_, g2, rfl, rfl⟩⟩, fun c hcm => ?_, q⟩
  have hle : s1.heap.objs.size ≤ c := by
    rcases cells_of hcm with e | e | e | e | e <;> rw [e]
    · exact Nat.le_add_right _ _
    · exact Nat.le_add_right _ _
    · exact Nat.le_add_right _ _
    · exact Nat.le_refl _
    · exact Nat.le_add_right _ _
  exact I1.fpOk hle (I1.hok.fresh hle)
/-- the loop, both of one length -/
theorem for_zipM {K : PySem.W.Frag} {a b : Addr} {xs ys : List V} {g : TG} {tb : TS} {D : Ends} {σ : L2.St} {H : Hp} (hl : xs.length = ys.length) (Pv : Nat → L2.St → Hp → Prop) (h0 : Pv 0 σ H) (hq : ∀ i σ H, Pv i σ H → SqL K H a xs ∧ SqT K H b ys)
    (hs : ∀ (i : Nat) (x y : V) (T : Addr) (σ : L2.St) (H : Hp), xs[i]? = some x → ys[i]? = some y → Pv i σ H → H T = none → g (.ref T) σ (upd H T (.tup [x, y])) fun σ2 H2 => tb { D with nx := Pv (i + 1), ct := Pv (i + 1), bk := D.nx } σ2 H2) (hd : ∀ σ H, Pv xs.length σ H → D.nx σ H) :
    ∃ W : Nat → Nat → L2.St → Hp → Prop, (∃ m, W 0 m σ H) ∧ ∀ i m σ H, W i m σ H →
      ((ItzM K a b).stop i H ∧ D.nx σ H) ∨ ((ItzM K a b).go i H ∧ ∃ N : L2.St → Hp → Prop, (∀ σ' H', N σ' H' → ∃ m', m' < m ∧ W (i + 1) m' σ' H') ∧ ∀ v H', (ItzM K a b).yld i H v H' → g v σ H' fun σ2 H2 => tb { D with nx := N, ct := N, bk := D.nx } σ2 H2) := by
  refine ⟨fun i m σ H => m + i = xs.length ∧ Pv i σ H, ⟨xs.length, rfl, h0⟩, ?_⟩
  rintro i m σ H ⟨hm, p⟩
  obtain ⟨qx, qy⟩ := hq i σ H p
  rcases Nat.lt_or_ge i xs.length with lt | ge
  · have lt2 : i < ys.length := by omega
    have ex : xs[i]? = some xs[i] := List.getElem?_eq_getElem lt
    have ey : ys[i]? = some ys[i] := List.getElem?_eq_getElem lt2
    refine .inr ⟨⟨xs, ys, _, _, qx, qy, ex, ey⟩, Pv (i + 1), fun σ' H' p' => ⟨m - 1, by omega, by omega, p'⟩, ?_⟩
    rintro v H' ⟨T, x, y, rfl, hT, rfl, f1, f2⟩
    have e1 := f1 xs qx
    have e2 := f2 ys qy
    exact hs i x y T σ H e1 e2 p hT
  · have e : i = xs.length := by omega
    subst e
    exact .inl ⟨⟨xs, ys, qx, qy, Nat.le_refl _, by omega, .inl rfl⟩, hd σ H p⟩
end ZM

set_option Elab.async false
set_option maxRecDepth 100000
set_option linter.all false
set_option maxHeartbeats 4000000
/-! shapes, values, entries as data; what agreement is -/
namespace AG
open PySem L2 GD
inductive Sh
  | v (n : Int) | c (s : Int) (as : List Sh) | t (ps : List Sh) | f (a b : Sh)
mutual
def Sh.d : Sh → PyData
  | .v n => .tuple [.str "v", .int n]
  | .c s as => .tuple [.str "c", .int s, .tuple (Sh.ds as)]
  | .t ps => .tuple [.str "t", .tuple (Sh.ds ps)]
  | .f a b => .tuple [.str "f", a.d, b.d]
def Sh.ds : List Sh → List PyData
  | [] => []
  | a :: r => a.d :: Sh.ds r
end
theorem ds_map : ∀ l : List Sh, Sh.ds l = l.map Sh.d
  | [] => by simp [Sh.ds]
  | a :: r => by simp [Sh.ds, ds_map r]
theorem ds_len (l : List Sh) : (Sh.ds l).length = l.length := by rw [ds_map, List.length_map]
def Sh.parts : Sh → List Sh
  | .v _ => []
  | .c _ l => l
  | .t l => l
  | .f a b => [a, b]
def Sh.isV : Sh → Bool
  | .v _ => true
  | _ => false
def Sh.withP : Sh → List Sh → Sh
  | .v n, _ => .v n
  | .c s _, l => .c s l
  | .t _, l => .t l
  | .f _ _, a :: b :: _ => .f a b
  | .f a b, _ => .f a b
def pick (as : List Sh) (n : Int) : Option Sh := if 0 ≤ n then as[n.toNat]? else none
mutual
def repl (as : List Sh) : Sh → Sh
  | .v n => (pick as n).getD (.v n)
  | .c s l => .c s (repls as l)
  | .t l => .t (repls as l)
  | .f a b => .f (repl as a) (repl as b)
def repls (as : List Sh) : List Sh → List Sh
  | [] => []
  | a :: r => repl as a :: repls as r
end
theorem repls_map (as : List Sh) : ∀ l : List Sh, repls as l = l.map (repl as)
  | [] => by simp [repls]
  | a :: r => by simp [repls, repls_map as r]
theorem repl_parts (as : List Sh) {s : Sh} (h : s.isV = false) : repl as s = s.withP (repls as s.parts) := by
  cases s with
  | v n => cases h
  | c s l => simp [repl, Sh.withP, Sh.parts]
  | t l => simp [repl, Sh.withP, Sh.parts]
  | f a b => simp [repl, repls, Sh.withP, Sh.parts]
mutual
def Sh.dep : Sh → Nat
  | .v _ => 1
  | .c _ l => 1 + l.length + Sh.deps l
  | .t l => 1 + l.length + Sh.deps l
  | .f a b => 1 + Nat.max a.dep b.dep
def Sh.deps : List Sh → Nat
  | [] => 0
  | a :: r => Nat.max a.dep (Sh.deps r)
end
theorem deps_mem : ∀ {l : List Sh} {a : Sh}, a ∈ l → a.dep ≤ Sh.deps l
  | b :: r, a, h => by
    simp only [Sh.deps]
    rcases List.mem_cons.mp h with h | h
    · subst h; exact Nat.le_max_left _ _
    · exact Nat.le_trans (deps_mem h) (Nat.le_max_right _ _)
theorem parts_dep {s a : Sh} (h : a ∈ s.parts) : a.dep < s.dep := by
  cases s with
  | v n => cases h
  | c s l => have := deps_mem (show a ∈ l from h); simp only [Sh.dep]; omega
  | t l => have := deps_mem (show a ∈ l from h); simp only [Sh.dep]; omega
  | f x y =>
    have h1 : x.dep ≤ Nat.max x.dep y.dep := Nat.le_max_left x.dep y.dep
    have h2 : y.dep ≤ Nat.max x.dep y.dep := Nat.le_max_right x.dep y.dep
    simp only [Sh.dep]
    have h' : a = x ∨ a = y := by simpa [Sh.parts] using h
    generalize Nat.max x.dep y.dep = m at h1 h2 ⊢
    rcases h' with h | h
    · rw [h]; omega
    · rw [h]; omega
theorem parts_len (s : Sh) : s.parts.length ≤ s.dep + 1 := by
  cases s with
  | v n => simp [Sh.parts]
  | c s l => simp only [Sh.parts, Sh.dep]; omega
  | t l => simp only [Sh.parts, Sh.dep]; omega
  | f a b => simp only [Sh.parts, Sh.dep, List.length_cons, List.length_nil]; omega
/-! ### values -/
inductive Vl
  | int (i : Int) | tup (vs : List Vl) | con0 (i : Int) (n : Str) | con1 (i : Int) (n : Str) (a : Vl) | ref (i : Int) | oth (g : Str) (r : List PyData)
mutual
def Vl.d : Vl → PyData
  | .int i => .tuple [.str "int", .int i]
  | .tup vs => .tuple [.str "tuple", .tuple (Vl.ds vs)]
  | .con0 i n => .tuple [.str "con", .int i, .str n, .none]
  | .con1 i n a => .tuple [.str "con", .int i, .str n, a.d]
  | .ref i => .tuple [.str "ref", .int i]
  | .oth g r => .tuple (.str g :: r)
def Vl.ds : List Vl → List PyData
  | [] => []
  | a :: r => a.d :: Vl.ds r
end
theorem vds_map : ∀ l : List Vl, Vl.ds l = l.map Vl.d
  | [] => by simp [Vl.ds]
  | a :: r => by simp [Vl.ds, vds_map r]
theorem vds_len (l : List Vl) : (Vl.ds l).length = l.length := by rw [vds_map, List.length_map]
def Vl.tag : Vl → Str
  | .int _ => "int"
  | .tup _ => "tuple"
  | .con0 _ _ => "con"
  | .con1 _ _ _ => "con"
  | .ref _ => "ref"
  | .oth g _ => g
/-- the other tags are other ones -/
def Vl.ok : Vl → Prop
  | .oth g _ => g ≠ "int" ∧ g ≠ "tuple" ∧ g ≠ "con" ∧ g ≠ "ref"
  | _ => True
mutual
def Vl.oka : Vl → Prop
  | .tup vs => Vl.okas vs
  | .con1 _ _ a => a.oka
  | .oth g _ => g ≠ "int" ∧ g ≠ "tuple" ∧ g ≠ "con" ∧ g ≠ "ref"
  | _ => True
def Vl.okas : List Vl → Prop
  | [] => True
  | a :: r => a.oka ∧ Vl.okas r
end
theorem okas_mem : ∀ {l : List Vl} {a : Vl}, Vl.okas l → a ∈ l → a.oka
  | b :: r, a, h, m => by
    have h' : b.oka ∧ Vl.okas r := by simpa [Vl.okas] using h
    rcases List.mem_cons.mp m with q | q
    · rw [q]; exact h'.1
    · exact okas_mem h'.2 q
theorem Vl.oka.ok {v : Vl} (h : v.oka) : v.ok := by
  cases v with
  | oth g r => simp only [Vl.oka] at h; exact h
  | _ => trivial
theorem Vl.d_cons (v : Vl) : ∃ r, v.d = .tuple (.str v.tag :: r) := by
  cases v <;> (simp only [Vl.d, Vl.tag]; exact ⟨_, rfl⟩)
/-! ### entries -/
/-- a constructor: its result has the variables 0, 1, .. -/
structure Row where
  name : Str
  ar : Int
  arg : Option Sh
  st : Int
  m : Nat
  idx : Int
  fam : PyData
def vars (m : Nat) : List Sh := (List.range m).map fun k : Nat => Sh.v (k : Int)
def Row.argD (r : Row) : PyData := match r.arg with
  | none => .none
  | some s => s.d
def Row.d (r : Row) : PyData := .tuple [.str "con", .str r.name, .int r.ar, r.argD, (Sh.c r.st (vars r.m)).d, .int r.idx, r.fam]
inductive Ent
  | con (r : Row) | mod (n : Str) (es : List Ent) | oth (g : Str) (r : List PyData)
mutual
def Ent.d : Ent → PyData
  | .con r => r.d
  | .mod n es => .tuple [.str "module", .str n, .tuple (Ent.ds es)]
  | .oth g r => .tuple (.str g :: r)
def Ent.ds : List Ent → List PyData
  | [] => []
  | a :: r => a.d :: Ent.ds r
end
theorem eds_map : ∀ l : List Ent, Ent.ds l = l.map Ent.d
  | [] => by simp [Ent.ds]
  | a :: r => by simp [Ent.ds, eds_map r]
mutual
def Ent.rows : Ent → List Row
  | .con r => [r]
  | .mod _ es => Ent.rowss es
  | .oth _ _ => []
def Ent.rowss : List Ent → List Row
  | [] => []
  | a :: r => a.rows ++ Ent.rowss r
end
theorem rowss_app : ∀ a b : List Ent, Ent.rowss (a ++ b) = Ent.rowss a ++ Ent.rowss b
  | [], b => by simp [Ent.rowss]
  | x :: a, b => by simp [Ent.rowss, rowss_app a b]
mutual
def Ent.dep : Ent → Nat
  | .con _ => 0
  | .mod _ es => 1 + Ent.deps es
  | .oth _ _ => 0
def Ent.deps : List Ent → Nat
  | [] => 0
  | a :: r => Nat.max a.dep (Ent.deps r)
end
mutual
/-- the other tags are other ones -/
def Ent.ok : Ent → Prop
  | .con _ => True
  | .mod _ es => Ent.oks es
  | .oth g _ => g ≠ "con" ∧ g ≠ "module"
def Ent.oks : List Ent → Prop
  | [] => True
  | a :: r => a.ok ∧ Ent.oks r
end
theorem oks_mem : ∀ {l : List Ent} {a : Ent}, Ent.oks l → a ∈ l → a.ok
  | b :: r, a, h, m => by
    have h' : b.ok ∧ Ent.oks r := by simpa [Ent.oks] using h
    rcases List.mem_cons.mp m with q | q
    · rw [q]; exact h'.1
    · exact oks_mem h'.2 q
theorem deps_memE : ∀ {l : List Ent} {a : Ent}, a ∈ l → a.dep ≤ Ent.deps l
  | b :: r, a, h => by
    simp only [Ent.deps]
    rcases List.mem_cons.mp h with h | h
    · subst h; exact Nat.le_max_left _ _
    · exact Nat.le_trans (deps_memE h) (Nat.le_max_right _ _)
/-! ### agreement -/
def zipAll (p : Sh → Vl → Bool) : List Sh → List Vl → Bool
  | [], [] => true
  | a :: r, b :: q => p a b && zipAll p r q
  | _, _ => false
def rowsOf (rows : List Row) (s : Int) : List Row := rows.filter fun r => decide (r.st = s)
def agr (rows : List Row) (st : List Vl) : Nat → Sh → Vl → Bool
  | 0, _, _ => true
  | n + 1, sh, v => match sh with
    | .v _ => false
    | .f _ _ => decide (v.tag = "fun") || decide (v.tag = "fix")
    | .t ps => (match v with
      | .tup vs => zipAll (agr rows st n) ps vs
      | _ => false)
    | .c s as =>
      if s = 0 ∧ as = [] then decide (v.tag = "int")
      else if s = 1 ∧ as = [] then (match v with
        | .tup [] => true
        | _ => false)
      else if s = 2 ∧ as = [] then decide (v.tag = "packet")
      else if s = 3 then (match as, v with
        | a :: _, .ref i => (match (if 0 ≤ i then st[i.toNat]? else none) with
          | some u => agr rows st n a u
          | none => false)
        | _, _ => false)
      else match rowsOf rows s with
        | [] => true
        | rs => (match v with
          | .con0 i x => (match rs.find? fun r => decide (r.idx = i) with
            | none => true
            | some r => decide (x = r.name) && r.arg.isNone)
          | .con1 i x u => (match rs.find? fun r => decide (r.idx = i) with
            | none => true
            | some r => decide (x = r.name) && (match r.arg with
              | none => false
              | some a => agr rows st n (repl as a) u))
          | _ => false)
/-! ### shapes that fit the rows -/
mutual
def Sh.fit (ar : Int → Nat) : Sh → Prop
  | .v _ => True
  | .c s l => l.length = ar s ∧ Sh.fits ar l
  | .t l => Sh.fits ar l
  | .f a b => a.fit ar ∧ b.fit ar
def Sh.fits (ar : Int → Nat) : List Sh → Prop
  | [] => True
  | a :: r => a.fit ar ∧ Sh.fits ar r
end
theorem fits_mem {ar : Int → Nat} : ∀ {l : List Sh} {a : Sh}, Sh.fits ar l → a ∈ l → a.fit ar
  | b :: r, a, h, m => by
    have h' : b.fit ar ∧ Sh.fits ar r := by simpa [Sh.fits] using h
    rcases List.mem_cons.mp m with q | q
    · rw [q]; exact h'.1
    · exact fits_mem h'.2 q
mutual
theorem repl_fit {ar : Int → Nat} {as : List Sh} (h : Sh.fits ar as) : ∀ s : Sh, s.fit ar → (repl as s).fit ar
  | .v n, _ => by
    simp only [repl, pick]
    split
    · rename_i h0
      cases e : as[n.toNat]? with
      | none => simp [Sh.fit]
      | some a => exact fits_mem h (List.mem_of_getElem? e)
    · simp [Sh.fit]
  | .c s l, q => by
    simp only [repl, Sh.fit] at q ⊢
    exact ⟨by rw [repls_map, List.length_map]; exact q.1, repls_fit h l q.2⟩
  | .t l, q => by
    simp only [repl, Sh.fit] at q ⊢
    exact repls_fit h l q
  | .f a b, q => by
    simp only [repl, Sh.fit] at q ⊢
    exact ⟨repl_fit h a q.1, repl_fit h b q.2⟩
theorem repls_fit {ar : Int → Nat} {as : List Sh} (h : Sh.fits ar as) : ∀ l : List Sh, Sh.fits ar l → Sh.fits ar (repls as l)
  | [], _ => by simp [repls, Sh.fits]
  | a :: r, q => by
    simp only [repls, Sh.fits] at q ⊢
    exact ⟨repl_fit h a q.1, repls_fit h r q.2⟩
end
structure RowOk (ar : Int → Nat) (r : Row) : Prop where
  m : r.m = ar r.st
  arg : ∀ a, r.arg = some a → a.fit ar ∧ a.dep ≤ 8
structure Env (ar : Int → Nat) (es : List Ent) (st : List Vl) : Prop where
  oks : Ent.oks es
  deps : Ent.deps es ≤ 3
  few : (Ent.rowss es).length ≤ 1000
  rok : ∀ r ∈ Ent.rowss es, RowOk ar r
  stok : Vl.okas st
  ar3 : ar 3 = 1
  arb : ∀ s, ar s ≤ 100
theorem zipAll_len {p : Sh → Vl → Bool} : ∀ {a : List Sh} {b : List Vl}, a.length ≠ b.length → zipAll p a b = false
  | [], [], h => absurd rfl h
  | [], _ :: _, _ => rfl
  | _ :: _, [], _ => rfl
  | x :: a, y :: b, h => by
    have h' : a.length ≠ b.length := fun e => h (by simp [e])
    simp [zipAll, zipAll_len h']
theorem zipAll_bad {p : Sh → Vl → Bool} : ∀ {a : List Sh} {b : List Vl} {i : Nat} {x : Sh} {y : Vl}, a[i]? = some x → b[i]? = some y → p x y = false → zipAll p a b = false
  | [], _, _, _, _, h, _, _ => by simp at h
  | _ :: _, [], _, _, _, _, h, _ => by simp at h
  | x :: a, y :: b, 0, _, _, h, k, q => by simp at h k; subst h k; simp [zipAll, q]
  | x :: a, y :: b, i + 1, _, _, h, k, q => by simp at h k; simp [zipAll, zipAll_bad h k q]
theorem zipAll_ok {p : Sh → Vl → Bool} : ∀ {a : List Sh} {b : List Vl}, a.length = b.length → (∀ (i : Nat) x y, a[i]? = some x → b[i]? = some y → p x y = true) → zipAll p a b = true
  | [], [], _, _ => rfl
  | [], _ :: _, h, _ => by simp at h
  | _ :: _, [], h, _ => by simp at h
  | x :: a, y :: b, h, k => by
    have h1 := k 0 x y rfl rfl
    have h2 := zipAll_ok (p := p) (a := a) (b := b) (by simpa using h) (fun i u v e f => k (i + 1) u v (by simpa using e) (by simpa using f))
    simp [zipAll, h1, h2]
theorem dec_s (a b : Str) : decide (V.str a = V.str b) = decide (a = b) := by
  by_cases h : a = b
  · rw [h]; simp
  · rw [decide_eq_false h, decide_eq_false (fun e => h (V.str.inj e))]
theorem dec_i (a b : Int) : decide (V.int a = V.int b) = decide (a = b) := by
  by_cases h : a = b
  · rw [h]; simp
  · rw [decide_eq_false h, decide_eq_false (fun e => h (V.int.inj e))]
theorem str_ne {a b : Str} (h : a ≠ b) : decide (V.str a = V.str b) = false := by rw [dec_s]; exact decide_eq_false h
theorem pick_take {as : List Sh} {i : Nat} {a : Sh} (h : as[i]? = some a) (j : Int) : pick (as.take (i + 1)) j = if j = (i : Int) then some a else pick (as.take i) j := by
  unfold pick
  have hi := (List.getElem?_eq_some_iff.mp h).1
  by_cases h0 : 0 ≤ j
  · rw [if_pos h0, if_pos h0]
    by_cases e : j = (i : Int)
    · rw [if_pos e, show j.toNat = i by omega, List.getElem?_take, if_pos (by omega)]
      exact h
    · rw [if_neg e, List.getElem?_take, List.getElem?_take]
      by_cases l : j.toNat < i
      · rw [if_pos l, if_pos (by omega)]
      · rw [if_neg l, if_neg (by omega)]
  · rw [if_neg h0, if_neg h0, if_neg (by omega)]
theorem pick_nil (j : Int) : pick [] j = none := by
  unfold pick
  split <;> simp
theorem vars_get {m k : Nat} (h : k < m) : (vars m)[k]? = some (Sh.v (k : Int)) := by
  unfold vars
  rw [List.getElem?_map, List.getElem?_range h]
  rfl
/-! ### == with small data -/
theorem eqv_small (s : Int) (as : List Sh) (k : Int) : PyData.eqv (Sh.c s as).d (.tuple [.str "c", .int k, .tuple []]) = decide (s = k ∧ as = []) := by
  cases as with
  | nil =>
    simp only [Sh.d, Sh.ds, PyData.eqv, PyData.eqvAll]
    by_cases h : s = k <;> simp [h]
  | cons a r =>
    simp only [Sh.d, Sh.ds, PyData.eqv, PyData.eqvAll]
    simp
def Vl.isUnit : Vl → Bool
  | .tup [] => true
  | _ => false
theorem eqv_unit (v : Vl) (h : v.ok) : PyData.eqv v.d (.tuple [.str "tuple", .tuple []]) = v.isUnit := by
  cases v with
  | int i => simp only [Vl.d, PyData.eqv, PyData.eqvAll, Vl.isUnit]; simp
  | tup vs => cases vs <;> simp [Vl.d, Vl.ds, PyData.eqv, PyData.eqvAll, Vl.isUnit]
  | con0 i n => simp only [Vl.d, PyData.eqv, PyData.eqvAll, Vl.isUnit]; simp
  | con1 i n a => simp only [Vl.d, PyData.eqv, PyData.eqvAll, Vl.isUnit]; simp
  | ref i => simp only [Vl.d, PyData.eqv, PyData.eqvAll, Vl.isUnit]; simp
  | oth g r =>
    have hg : (g == ("tuple" : Str)) = false := by
      rw [beq_eq_false_iff_ne]
      exact h.2.1
    simp only [Vl.d, PyData.eqv, PyData.eqvAll, Vl.isUnit, hg, Bool.false_and]
/-! ### as objects -/
section
variable {K : PySem.W.Frag} {H : Hp}
theorem inv_v {x : V} {n : Int} (h : Rp K H x (Sh.v n).d) : ∃ a, x = .ref a ∧ SqT K H a [.str "v", .int n] := by
  simp only [Sh.d] at h
  obtain ⟨a, xs, rfl, s, r0⟩ := h.tup_inv
  obtain ⟨v1, w1, rfl, h1, r1⟩ := r0.cons_inv
  obtain ⟨v2, w2, rfl, h2, r2⟩ := r1.cons_inv
  have er := RpAll.nil_inv r2
  rw [h1.str_inv, h2.int_inv, er] at s
  exact ⟨a, rfl, s⟩
theorem inv_c {x : V} {n : Int} {l : List Sh} (h : Rp K H x (Sh.c n l).d) : ∃ a g gs, x = .ref a ∧ SqT K H a [.str "c", .int n, .ref g] ∧ SqT K H g gs ∧ RpAll K H gs (Sh.ds l) := by
  simp only [Sh.d] at h
  obtain ⟨a, xs, rfl, s, r0⟩ := h.tup_inv
  obtain ⟨v1, w1, rfl, h1, r1⟩ := r0.cons_inv
  obtain ⟨v2, w2, rfl, h2, r2⟩ := r1.cons_inv
  obtain ⟨v3, w3, rfl, h3, r3⟩ := r2.cons_inv
  obtain ⟨g, gs, rfl, sg, rg⟩ := h3.tup_inv
  have er := RpAll.nil_inv r3
  rw [h1.str_inv, h2.int_inv, er] at s
  exact ⟨a, g, gs, rfl, s, sg, rg⟩
theorem inv_t {x : V} {l : List Sh} (h : Rp K H x (Sh.t l).d) : ∃ a g gs, x = .ref a ∧ SqT K H a [.str "t", .ref g] ∧ SqT K H g gs ∧ RpAll K H gs (Sh.ds l) := by
  simp only [Sh.d] at h
  obtain ⟨a, xs, rfl, s, r0⟩ := h.tup_inv
  obtain ⟨v1, w1, rfl, h1, r1⟩ := r0.cons_inv
  obtain ⟨v3, w3, rfl, h3, r2⟩ := r1.cons_inv
  obtain ⟨g, gs, rfl, sg, rg⟩ := h3.tup_inv
  have er := RpAll.nil_inv r2
  rw [h1.str_inv, er] at s
  exact ⟨a, g, gs, rfl, s, sg, rg⟩
theorem inv_f {x : V} {p q : Sh} (h : Rp K H x (Sh.f p q).d) : ∃ a y z, x = .ref a ∧ SqT K H a [.str "f", y, z] ∧ Rp K H y p.d ∧ Rp K H z q.d := by
  simp only [Sh.d] at h
  obtain ⟨a, xs, rfl, s, r0⟩ := h.tup_inv
  obtain ⟨v1, w1, rfl, h1, r1⟩ := r0.cons_inv
  obtain ⟨v2, w2, rfl, h2, r2⟩ := r1.cons_inv
  obtain ⟨v3, w3, rfl, h3, r3⟩ := r2.cons_inv
  have er := RpAll.nil_inv r3
  rw [h1.str_inv, er] at s
  exact ⟨a, v2, v3, rfl, s, h2, h3⟩
theorem inv_tag {x : V} (v : Vl) (h : Rp K H x v.d) : ∃ a ws, x = .ref a ∧ SqT K H a (.str v.tag :: ws) := by
  obtain ⟨r, e⟩ := v.d_cons
  rw [e] at h
  obtain ⟨a, xs, rfl, s, r0⟩ := h.tup_inv
  obtain ⟨v1, w1, rfl, h1, r1⟩ := r0.cons_inv
  rw [h1.str_inv] at s
  exact ⟨a, w1, rfl, s⟩
theorem inv_tup {x : V} {l : List Vl} (h : Rp K H x (Vl.tup l).d) : ∃ a g gs, x = .ref a ∧ SqT K H a [.str "tuple", .ref g] ∧ SqT K H g gs ∧ RpAll K H gs (Vl.ds l) := by
  simp only [Vl.d] at h
  obtain ⟨a, xs, rfl, s, r0⟩ := h.tup_inv
  obtain ⟨v1, w1, rfl, h1, r1⟩ := r0.cons_inv
  obtain ⟨v3, w3, rfl, h3, r2⟩ := r1.cons_inv
  obtain ⟨g, gs, rfl, sg, rg⟩ := h3.tup_inv
  have er := RpAll.nil_inv r2
  rw [h1.str_inv, er] at s
  exact ⟨a, g, gs, rfl, s, sg, rg⟩
theorem inv_con0 {x : V} {i : Int} {n : Str} (h : Rp K H x (Vl.con0 i n).d) : ∃ a, x = .ref a ∧ SqT K H a [.str "con", .int i, .str n, .non] := by
  simp only [Vl.d] at h
  obtain ⟨a, xs, rfl, s, r0⟩ := h.tup_inv
  obtain ⟨v1, w1, rfl, h1, r1⟩ := r0.cons_inv
  obtain ⟨v2, w2, rfl, h2, r2⟩ := r1.cons_inv
  obtain ⟨v3, w3, rfl, h3, r3⟩ := r2.cons_inv
  obtain ⟨v4, w4, rfl, h4, r4⟩ := r3.cons_inv
  have er := RpAll.nil_inv r4
  rw [h1.str_inv, h2.int_inv, h3.str_inv, h4.non_inv, er] at s
  exact ⟨a, rfl, s⟩
theorem inv_con1 {x : V} {i : Int} {n : Str} {u : Vl} (h : Rp K H x (Vl.con1 i n u).d) : ∃ a y, x = .ref a ∧ SqT K H a [.str "con", .int i, .str n, .ref y] ∧ Rp K H (.ref y) u.d := by
  simp only [Vl.d] at h
  obtain ⟨a, xs, rfl, s, r0⟩ := h.tup_inv
  obtain ⟨v1, w1, rfl, h1, r1⟩ := r0.cons_inv
  obtain ⟨v2, w2, rfl, h2, r2⟩ := r1.cons_inv
  obtain ⟨v3, w3, rfl, h3, r3⟩ := r2.cons_inv
  obtain ⟨v4, w4, rfl, h4, r4⟩ := r3.cons_inv
  have er := RpAll.nil_inv r4
  rw [h1.str_inv, h2.int_inv, h3.str_inv, er] at s
  obtain ⟨y, ws, rfl, _⟩ := inv_tag u h4
  exact ⟨a, y, rfl, s, h4⟩
theorem inv_ref {x : V} {i : Int} (h : Rp K H x (Vl.ref i).d) : ∃ a, x = .ref a ∧ SqT K H a [.str "ref", .int i] := by
  simp only [Vl.d] at h
  obtain ⟨a, xs, rfl, s, r0⟩ := h.tup_inv
  obtain ⟨v1, w1, rfl, h1, r1⟩ := r0.cons_inv
  obtain ⟨v2, w2, rfl, h2, r2⟩ := r1.cons_inv
  have er := RpAll.nil_inv r2
  rw [h1.str_inv, h2.int_inv, er] at s
  exact ⟨a, rfl, s⟩
theorem inv_row {x : V} {r : Row} (h : Rp K H x r.d) : ∃ a y p q gs f, x = .ref a ∧ SqT K H a [.str "con", .str r.name, .int r.ar, y, .ref p, .int r.idx, f] ∧ Rp K H y r.argD ∧ SqT K H p [.str "c", .int r.st, .ref q] ∧ SqT K H q gs ∧ RpAll K H gs (Sh.ds (vars r.m)) := by
  simp only [Row.d] at h
  obtain ⟨a, xs, rfl, s, r0⟩ := h.tup_inv
  obtain ⟨v1, w1, rfl, h1, r1⟩ := r0.cons_inv
  obtain ⟨v2, w2, rfl, h2, r2⟩ := r1.cons_inv
  obtain ⟨v3, w3, rfl, h3, r3⟩ := r2.cons_inv
  obtain ⟨v4, w4, rfl, h4, r4⟩ := r3.cons_inv
  obtain ⟨v5, w5, rfl, h5, r5⟩ := r4.cons_inv
  obtain ⟨v6, w6, rfl, h6, r6⟩ := r5.cons_inv
  obtain ⟨v7, w7, rfl, h7, r7⟩ := r6.cons_inv
  obtain ⟨p, q, gs, rfl, s5, s6, s7⟩ := inv_c h5
  have er := RpAll.nil_inv r7
  rw [h1.str_inv, h2.str_inv, h3.int_inv, h6.int_inv, er] at s
  exact ⟨a, v4, p, q, gs, v7, rfl, s, h4, s5, s6, s7⟩
theorem Sh.ref {x : V} (s : Sh) (h : Rp K H x s.d) : ∃ a, x = .ref a := by
  cases s with
  | v n => obtain ⟨a, e, _⟩ := inv_v h; exact ⟨a, e⟩
  | c n l => obtain ⟨a, _, _, e, _⟩ := inv_c h; exact ⟨a, e⟩
  | t l => obtain ⟨a, _, _, e, _⟩ := inv_t h; exact ⟨a, e⟩
  | f p q => obtain ⟨a, _, _, e, _⟩ := inv_f h; exact ⟨a, e⟩
theorem inv_mod {x : V} {n : Str} {es : List Ent} (h : Rp K H x (Ent.mod n es).d) : ∃ a g, x = .ref a ∧ SqT K H a [.str "module", .str n, .ref g] ∧ Rp K H (.ref g) (.tuple (Ent.ds es)) := by
  simp only [Ent.d] at h
  obtain ⟨a, xs, rfl, s, r0⟩ := h.tup_inv
  obtain ⟨v1, w1, rfl, h1, r1⟩ := r0.cons_inv
  obtain ⟨v2, w2, rfl, h2, r2⟩ := r1.cons_inv
  obtain ⟨v3, w3, rfl, h3, r3⟩ := r2.cons_inv
  obtain ⟨g, gs, rfl, _, _⟩ := h3.tup_inv
  have er := RpAll.nil_inv r3
  rw [h1.str_inv, h2.str_inv, er] at s
  exact ⟨a, g, rfl, s, h3⟩
theorem inv_othE {x : V} {g : Str} {r : List PyData} (h : Rp K H x (Ent.oth g r).d) : ∃ a ws, x = .ref a ∧ SqT K H a (.str g :: ws) := by
  simp only [Ent.d] at h
  obtain ⟨a, xs, rfl, s, r0⟩ := h.tup_inv
  obtain ⟨v1, w1, rfl, h1, r1⟩ := r0.cons_inv
  rw [h1.str_inv] at s
  exact ⟨a, w1, rfl, s⟩
end
end AG

set_option Elab.async false
set_option maxRecDepth 100000
set_option linter.all false
set_option maxHeartbeats 4000000
/-! the basis as entries -/
namespace AG
open PySem L2 GD
def basisE : List Ent := [
  .oth "shape" [.str "int", .int 0, .tuple [.str "c", .int 0, .tuple []]],
  .oth "shape" [.str "unit", .int 0, .tuple [.str "c", .int 1, .tuple []]],
  .oth "shape" [.str "exn", .int 0, .tuple [.str "c", .int 2, .tuple []]],
  .oth "shape" [.str "ref", .int 1, .tuple [.str "c", .int 3, .tuple [.tuple [.str "v", .int 0]]]],
  .oth "shape" [.str "bool", .int 0, .tuple [.str "c", .int 4, .tuple []]],
  .oth "shape" [.str "list", .int 1, .tuple [.str "c", .int 5, .tuple [.tuple [.str "v", .int 0]]]],
  .oth "shape" [.str "option", .int 1, .tuple [.str "c", .int 6, .tuple [.tuple [.str "v", .int 0]]]],
  .oth "shape" [.str "order", .int 0, .tuple [.str "c", .int 7, .tuple []]],
  .con ⟨"False", 0, none, 4, 0, 0, .tuple [.tuple [.str "False", .bool false], .tuple [.str "True", .bool false]]⟩,
  .con ⟨"True", 0, none, 4, 0, 1, .tuple [.tuple [.str "False", .bool false], .tuple [.str "True", .bool false]]⟩,
  .con ⟨"Nil", 1, none, 5, 1, 0, .tuple [.tuple [.str "Nil", .bool false], .tuple [.str "Cons", .bool true]]⟩,
  .con ⟨"Cons", 1, some (.t [.v 0, .c 5 [.v 0]]), 5, 1, 1, .tuple [.tuple [.str "Nil", .bool false], .tuple [.str "Cons", .bool true]]⟩,
  .con ⟨"None", 1, none, 6, 1, 0, .tuple [.tuple [.str "None", .bool false], .tuple [.str "Some", .bool true]]⟩,
  .con ⟨"Some", 1, some (.v 0), 6, 1, 1, .tuple [.tuple [.str "None", .bool false], .tuple [.str "Some", .bool true]]⟩,
  .con ⟨"Less", 0, none, 7, 0, 0, .tuple [.tuple [.str "Less", .bool false], .tuple [.str "Equal", .bool false], .tuple [.str "Greater", .bool false]]⟩,
  .con ⟨"Equal", 0, none, 7, 0, 1, .tuple [.tuple [.str "Less", .bool false], .tuple [.str "Equal", .bool false], .tuple [.str "Greater", .bool false]]⟩,
  .con ⟨"Greater", 0, none, 7, 0, 2, .tuple [.tuple [.str "Less", .bool false], .tuple [.str "Equal", .bool false], .tuple [.str "Greater", .bool false]]⟩,
  .oth "exn" [.str "Match", .none],
  .oth "exn" [.str "Bind", .none],
  .oth "exn" [.str "Div", .none],
  .oth "exn" [.str "Equality", .none],
  .oth "val" [.str "+", .tuple [.int 0, .tuple [.str "f", .tuple [.str "t", .tuple [.tuple [.str "c", .int 0, .tuple []], .tuple [.str "c", .int 0, .tuple []]]], .tuple [.str "c", .int 0, .tuple []]]]],
  .oth "val" [.str "-", .tuple [.int 0, .tuple [.str "f", .tuple [.str "t", .tuple [.tuple [.str "c", .int 0, .tuple []], .tuple [.str "c", .int 0, .tuple []]]], .tuple [.str "c", .int 0, .tuple []]]]],
  .oth "val" [.str "*", .tuple [.int 0, .tuple [.str "f", .tuple [.str "t", .tuple [.tuple [.str "c", .int 0, .tuple []], .tuple [.str "c", .int 0, .tuple []]]], .tuple [.str "c", .int 0, .tuple []]]]],
  .oth "val" [.str "div", .tuple [.int 0, .tuple [.str "f", .tuple [.str "t", .tuple [.tuple [.str "c", .int 0, .tuple []], .tuple [.str "c", .int 0, .tuple []]]], .tuple [.str "c", .int 0, .tuple []]]]],
  .oth "val" [.str "mod", .tuple [.int 0, .tuple [.str "f", .tuple [.str "t", .tuple [.tuple [.str "c", .int 0, .tuple []], .tuple [.str "c", .int 0, .tuple []]]], .tuple [.str "c", .int 0, .tuple []]]]],
  .oth "val" [.str "<", .tuple [.int 0, .tuple [.str "f", .tuple [.str "t", .tuple [.tuple [.str "c", .int 0, .tuple []], .tuple [.str "c", .int 0, .tuple []]]], .tuple [.str "c", .int 4, .tuple []]]]],
  .oth "val" [.str "<=", .tuple [.int 0, .tuple [.str "f", .tuple [.str "t", .tuple [.tuple [.str "c", .int 0, .tuple []], .tuple [.str "c", .int 0, .tuple []]]], .tuple [.str "c", .int 4, .tuple []]]]],
  .oth "val" [.str ">", .tuple [.int 0, .tuple [.str "f", .tuple [.str "t", .tuple [.tuple [.str "c", .int 0, .tuple []], .tuple [.str "c", .int 0, .tuple []]]], .tuple [.str "c", .int 4, .tuple []]]]],
  .oth "val" [.str ">=", .tuple [.int 0, .tuple [.str "f", .tuple [.str "t", .tuple [.tuple [.str "c", .int 0, .tuple []], .tuple [.str "c", .int 0, .tuple []]]], .tuple [.str "c", .int 4, .tuple []]]]],
  .oth "val" [.str "=", .tuple [.int 1, .tuple [.str "f", .tuple [.str "t", .tuple [.tuple [.str "v", .int 0], .tuple [.str "v", .int 0]]], .tuple [.str "c", .int 4, .tuple []]]]],
  .oth "val" [.str "<>", .tuple [.int 1, .tuple [.str "f", .tuple [.str "t", .tuple [.tuple [.str "v", .int 0], .tuple [.str "v", .int 0]]], .tuple [.str "c", .int 4, .tuple []]]]],
  .oth "val" [.str "~", .tuple [.int 0, .tuple [.str "f", .tuple [.str "c", .int 0, .tuple []], .tuple [.str "c", .int 0, .tuple []]]]],
  .oth "val" [.str "ref", .tuple [.int 1, .tuple [.str "f", .tuple [.str "v", .int 0], .tuple [.str "c", .int 3, .tuple [.tuple [.str "v", .int 0]]]]]],
  .oth "val" [.str "!", .tuple [.int 1, .tuple [.str "f", .tuple [.str "c", .int 3, .tuple [.tuple [.str "v", .int 0]]], .tuple [.str "v", .int 0]]]],
  .oth "val" [.str ":=", .tuple [.int 1, .tuple [.str "f", .tuple [.str "t", .tuple [.tuple [.str "c", .int 3, .tuple [.tuple [.str "v", .int 0]]], .tuple [.str "v", .int 0]]], .tuple [.str "c", .int 1, .tuple []]]]],
  .oth "val" [.str "print", .tuple [.int 0, .tuple [.str "f", .tuple [.str "c", .int 0, .tuple []], .tuple [.str "c", .int 1, .tuple []]]]],
  .oth "val" [.str "not", .tuple [.int 0, .tuple [.str "f", .tuple [.str "c", .int 4, .tuple []], .tuple [.str "c", .int 4, .tuple []]]]],
  .oth "val" [.str "@", .tuple [.int 1, .tuple [.str "f", .tuple [.str "t", .tuple [.tuple [.str "c", .int 5, .tuple [.tuple [.str "v", .int 0]]], .tuple [.str "c", .int 5, .tuple [.tuple [.str "v", .int 0]]]]], .tuple [.str "c", .int 5, .tuple [.tuple [.str "v", .int 0]]]]]]]
end AG

set_option Elab.async false
set_option maxRecDepth 100000
set_option linter.all false
set_option maxHeartbeats 4000000
namespace K89
open PySem L2 GD
theorem ixl {X : Cx} {K : PySem.W.Frag} (h : X.K = K) : IxR X (rIxL K) := by
  subst h
  exact ix_list
theorem ixt {X : Cx} {K : PySem.W.Frag} (h : X.K = K) : IxR X (rIxT K) := by
  subst h
  exact ix_tup
theorem hu65 {k : Nat} {A : Around} (hr : Room k A) : A.units + 65 < cLine := by
  have := hr.un
  omega
theorem tYes_do {σ : L2.St} {H : Hp} {f g : Hp → Prop} (h : f H) : tYes σ H (fun b H3 => if b = true then f H3 else g H3) := by
  show (if true = true then f H else g H)
  rw [if_pos rfl]
  exact h
def BASIS_D : PyData := .tuple [.tuple [.tuple [.str "shape", .str "int", .int 0, .tuple [.str "c", .int 0, .tuple []]], .tuple [.str "shape", .str "unit", .int 0, .tuple [.str "c", .int 1, .tuple []]], .tuple [.str "shape", .str "exn", .int 0, .tuple [.str "c", .int 2, .tuple []]], .tuple [.str "shape", .str "ref", .int 1, .tuple [.str "c", .int 3, .tuple [.tuple [.str "v", .int 0]]]], .tuple [.str "shape", .str "bool", .int 0, .tuple [.str "c", .int 4, .tuple []]], .tuple [.str "shape", .str "list", .int 1, .tuple [.str "c", .int 5, .tuple [.tuple [.str "v", .int 0]]]], .tuple [.str "shape", .str "option", .int 1, .tuple [.str "c", .int 6, .tuple [.tuple [.str "v", .int 0]]]], .tuple [.str "shape", .str "order", .int 0, .tuple [.str "c", .int 7, .tuple []]], .tuple [.str "con", .str "False", .int 0, .none, .tuple [.str "c", .int 4, .tuple []], .int 0, .tuple [.tuple [.str "False", .bool false], .tuple [.str "True", .bool false]]], .tuple [.str "con", .str "True", .int 0, .none, .tuple [.str "c", .int 4, .tuple []], .int 1, .tuple [.tuple [.str "False", .bool false], .tuple [.str "True", .bool false]]], .tuple [.str "con", .str "Nil", .int 1, .none, .tuple [.str "c", .int 5, .tuple [.tuple [.str "v", .int 0]]], .int 0, .tuple [.tuple [.str "Nil", .bool false], .tuple [.str "Cons", .bool true]]], .tuple [.str "con", .str "Cons", .int 1, .tuple [.str "t", .tuple [.tuple [.str "v", .int 0], .tuple [.str "c", .int 5, .tuple [.tuple [.str "v", .int 0]]]]], .tuple [.str "c", .int 5, .tuple [.tuple [.str "v", .int 0]]], .int 1, .tuple [.tuple [.str "Nil", .bool false], .tuple [.str "Cons", .bool true]]], .tuple [.str "con", .str "None", .int 1, .none, .tuple [.str "c", .int 6, .tuple [.tuple [.str "v", .int 0]]], .int 0, .tuple [.tuple [.str "None", .bool false], .tuple [.str "Some", .bool true]]], .tuple [.str "con", .str "Some", .int 1, .tuple [.str "v", .int 0], .tuple [.str "c", .int 6, .tuple [.tuple [.str "v", .int 0]]], .int 1, .tuple [.tuple [.str "None", .bool false], .tuple [.str "Some", .bool true]]], .tuple [.str "con", .str "Less", .int 0, .none, .tuple [.str "c", .int 7, .tuple []], .int 0, .tuple [.tuple [.str "Less", .bool false], .tuple [.str "Equal", .bool false], .tuple [.str "Greater", .bool false]]], .tuple [.str "con", .str "Equal", .int 0, .none, .tuple [.str "c", .int 7, .tuple []], .int 1, .tuple [.tuple [.str "Less", .bool false], .tuple [.str "Equal", .bool false], .tuple [.str "Greater", .bool false]]], .tuple [.str "con", .str "Greater", .int 0, .none, .tuple [.str "c", .int 7, .tuple []], .int 2, .tuple [.tuple [.str "Less", .bool false], .tuple [.str "Equal", .bool false], .tuple [.str "Greater", .bool false]]], .tuple [.str "exn", .str "Match", .none], .tuple [.str "exn", .str "Bind", .none], .tuple [.str "exn", .str "Div", .none], .tuple [.str "exn", .str "Equality", .none], .tuple [.str "val", .str "+", .tuple [.int 0, .tuple [.str "f", .tuple [.str "t", .tuple [.tuple [.str "c", .int 0, .tuple []], .tuple [.str "c", .int 0, .tuple []]]], .tuple [.str "c", .int 0, .tuple []]]]], .tuple [.str "val", .str "-", .tuple [.int 0, .tuple [.str "f", .tuple [.str "t", .tuple [.tuple [.str "c", .int 0, .tuple []], .tuple [.str "c", .int 0, .tuple []]]], .tuple [.str "c", .int 0, .tuple []]]]], .tuple [.str "val", .str "*", .tuple [.int 0, .tuple [.str "f", .tuple [.str "t", .tuple [.tuple [.str "c", .int 0, .tuple []], .tuple [.str "c", .int 0, .tuple []]]], .tuple [.str "c", .int 0, .tuple []]]]], .tuple [.str "val", .str "div", .tuple [.int 0, .tuple [.str "f", .tuple [.str "t", .tuple [.tuple [.str "c", .int 0, .tuple []], .tuple [.str "c", .int 0, .tuple []]]], .tuple [.str "c", .int 0, .tuple []]]]], .tuple [.str "val", .str "mod", .tuple [.int 0, .tuple [.str "f", .tuple [.str "t", .tuple [.tuple [.str "c", .int 0, .tuple []], .tuple [.str "c", .int 0, .tuple []]]], .tuple [.str "c", .int 0, .tuple []]]]], .tuple [.str "val", .str "<", .tuple [.int 0, .tuple [.str "f", .tuple [.str "t", .tuple [.tuple [.str "c", .int 0, .tuple []], .tuple [.str "c", .int 0, .tuple []]]], .tuple [.str "c", .int 4, .tuple []]]]], .tuple [.str "val", .str "<=", .tuple [.int 0, .tuple [.str "f", .tuple [.str "t", .tuple [.tuple [.str "c", .int 0, .tuple []], .tuple [.str "c", .int 0, .tuple []]]], .tuple [.str "c", .int 4, .tuple []]]]], .tuple [.str "val", .str ">", .tuple [.int 0, .tuple [.str "f", .tuple [.str "t", .tuple [.tuple [.str "c", .int 0, .tuple []], .tuple [.str "c", .int 0, .tuple []]]], .tuple [.str "c", .int 4, .tuple []]]]], .tuple [.str "val", .str ">=", .tuple [.int 0, .tuple [.str "f", .tuple [.str "t", .tuple [.tuple [.str "c", .int 0, .tuple []], .tuple [.str "c", .int 0, .tuple []]]], .tuple [.str "c", .int 4, .tuple []]]]], .tuple [.str "val", .str "=", .tuple [.int 1, .tuple [.str "f", .tuple [.str "t", .tuple [.tuple [.str "v", .int 0], .tuple [.str "v", .int 0]]], .tuple [.str "c", .int 4, .tuple []]]]], .tuple [.str "val", .str "<>", .tuple [.int 1, .tuple [.str "f", .tuple [.str "t", .tuple [.tuple [.str "v", .int 0], .tuple [.str "v", .int 0]]], .tuple [.str "c", .int 4, .tuple []]]]], .tuple [.str "val", .str "~", .tuple [.int 0, .tuple [.str "f", .tuple [.str "c", .int 0, .tuple []], .tuple [.str "c", .int 0, .tuple []]]]], .tuple [.str "val", .str "ref", .tuple [.int 1, .tuple [.str "f", .tuple [.str "v", .int 0], .tuple [.str "c", .int 3, .tuple [.tuple [.str "v", .int 0]]]]]], .tuple [.str "val", .str "!", .tuple [.int 1, .tuple [.str "f", .tuple [.str "c", .int 3, .tuple [.tuple [.str "v", .int 0]]], .tuple [.str "v", .int 0]]]], .tuple [.str "val", .str ":=", .tuple [.int 1, .tuple [.str "f", .tuple [.str "t", .tuple [.tuple [.str "c", .int 3, .tuple [.tuple [.str "v", .int 0]]], .tuple [.str "v", .int 0]]], .tuple [.str "c", .int 1, .tuple []]]]], .tuple [.str "val", .str "print", .tuple [.int 0, .tuple [.str "f", .tuple [.str "c", .int 0, .tuple []], .tuple [.str "c", .int 1, .tuple []]]]], .tuple [.str "val", .str "not", .tuple [.int 0, .tuple [.str "f", .tuple [.str "c", .int 4, .tuple []], .tuple [.str "c", .int 4, .tuple []]]]], .tuple [.str "val", .str "@", .tuple [.int 1, .tuple [.str "f", .tuple [.str "t", .tuple [.tuple [.str "c", .int 5, .tuple [.tuple [.str "v", .int 0]]], .tuple [.str "c", .int 5, .tuple [.tuple [.str "v", .int 0]]]]], .tuple [.str "c", .int 5, .tuple [.tuple [.str "v", .int 0]]]]]]], .tuple [.int 0, .int 0, .int 0, .int 1, .int 0, .int 1, .int 1, .int 0]]
def INT_D : PyData := .tuple [.str "c", .int 0, .tuple []]
def UNIT_D : PyData := .tuple [.str "c", .int 1, .tuple []]
def EXN_D : PyData := .tuple [.str "c", .int 2, .tuple []]
def topS (i : Nat) : Stmt := PySem.Challenge.pw_shapewright_k89_records_agree.main.body.getD i (.Pass ⟨0, 0, 0, 0⟩)
abbrev s_direct_parts : Stmt := topS 6
abbrev N_direct_parts : List Str := ["shape"]
theorem sc_direct_parts : FnScope N_direct_parts ["shape"] (defScope s_direct_parts) := ⟨rfl, rfl, rfl, by decide +kernel, rfl, by decide +kernel, by decide +kernel⟩
abbrev s_with_parts : Stmt := topS 7
abbrev N_with_parts : List Str := ["shape", "new_parts"]
theorem sc_with_parts : FnScope N_with_parts ["shape", "new_parts"] (defScope s_with_parts) := ⟨rfl, rfl, rfl, by decide +kernel, rfl, by decide +kernel, by decide +kernel⟩
abbrev s_replace_variables : Stmt := topS 8
abbrev N_replace_variables : List Str := ["shape", "mapping", "new_parts", "part"]
theorem sc_replace_variables : FnScope N_replace_variables ["shape", "mapping"] (defScope s_replace_variables) := ⟨rfl, rfl, rfl, by decide +kernel, rfl, by decide +kernel, by decide +kernel⟩
abbrev s_constructor_entries : Stmt := topS 10
abbrev N_constructor_entries : List Str := ["entries", "found", "entry"]
theorem sc_constructor_entries : FnScope N_constructor_entries ["entries"] (defScope s_constructor_entries) := ⟨rfl, rfl, rfl, by decide +kernel, rfl, by decide +kernel, by decide +kernel⟩
abbrev s_constructors_of : Stmt := topS 11
abbrev N_constructors_of : List Str := ["entries", "stamp", "entry"]
theorem sc_constructors_of : FnScope N_constructors_of ["entries", "stamp"] (defScope s_constructors_of) := ⟨rfl, rfl, rfl, by decide +kernel, rfl, by decide +kernel, by decide +kernel⟩
abbrev s_agrees_with_entry : Stmt := topS 12
abbrev N_agrees_with_entry : List Str := ["entries", "entry", "args", "value", "store", "depth", "mapping", "k"]
theorem sc_agrees_with_entry : FnScope N_agrees_with_entry ["entries", "entry", "args", "value", "store", "depth"] (defScope s_agrees_with_entry) := ⟨rfl, rfl, rfl, by decide +kernel, rfl, by decide +kernel, by decide +kernel⟩
abbrev s_agrees_with_constructor : Stmt := topS 13
abbrev N_agrees_with_constructor : List Str := ["entries", "shape", "value", "store", "depth", "rows", "entry"]
theorem sc_agrees_with_constructor : FnScope N_agrees_with_constructor ["entries", "shape", "value", "store", "depth"] (defScope s_agrees_with_constructor) := ⟨rfl, rfl, rfl, by decide +kernel, rfl, by decide +kernel, by decide +kernel⟩
abbrev s_agrees : Stmt := topS 14
abbrev N_agrees : List Str := ["entries", "shape", "value", "store", "depth", "part", "item"]
theorem sc_agrees : FnScope N_agrees ["entries", "shape", "value", "store", "depth"] (defScope s_agrees) := ⟨rfl, rfl, rfl, by decide +kernel, rfl, by decide +kernel, by decide +kernel⟩
abbrev s_label_of : Stmt := topS 15
abbrev N_label_of : List Str := ["entry"]
theorem sc_label_of : FnScope N_label_of ["entry"] (defScope s_label_of) := ⟨rfl, rfl, rfl, by decide +kernel, rfl, by decide +kernel, by decide +kernel⟩
abbrev s_ordered_fields : Stmt := topS 16
abbrev N_ordered_fields : List Str := ["level", "found", "tag", "rows", "entry"]
theorem sc_ordered_fields : FnScope N_ordered_fields ["level"] (defScope s_ordered_fields) := ⟨rfl, rfl, rfl, by decide +kernel, rfl, by decide +kernel, by decide +kernel⟩
abbrev s_agrees_with_field : Stmt := topS 17
abbrev N_agrees_with_field : List Str := ["entries", "entry", "value", "store", "depth"]
theorem sc_agrees_with_field : FnScope N_agrees_with_field ["entries", "entry", "value", "store", "depth"] (defScope s_agrees_with_field) := ⟨rfl, rfl, rfl, by decide +kernel, rfl, by decide +kernel, by decide +kernel⟩
abbrev s_agrees_with_level : Stmt := topS 18
abbrev N_agrees_with_level : List Str := ["entries", "level", "value", "store", "depth", "due", "entry", "field"]
theorem sc_agrees_with_level : FnScope N_agrees_with_level ["entries", "level", "value", "store", "depth"] (defScope s_agrees_with_level) := ⟨rfl, rfl, rfl, by decide +kernel, rfl, by decide +kernel, by decide +kernel⟩
abbrev s__law_box : Stmt := topS 37
abbrev N__law_box : List Str := ["script", "nodes"]
theorem sc__law_box : FnScope N__law_box ["script", "nodes"] (defScope s__law_box) := ⟨rfl, rfl, rfl, by decide +kernel, rfl, by decide +kernel, by decide +kernel⟩
abbrev s__law_load : Stmt := topS 38
abbrev N__law_load : List Str := ["box", "cells", "cell", "size", "first", "second"]
theorem sc__law_load : FnScope N__law_load ["box"] (defScope s__law_load) := ⟨rfl, rfl, rfl, by decide +kernel, rfl, by decide +kernel, by decide +kernel⟩
abbrev s__law_draw : Stmt := topS 39
abbrev N__law_draw : List Str := ["box", "many", "digit"]
theorem sc__law_draw : FnScope N__law_draw ["box", "many"] (defScope s__law_draw) := ⟨rfl, rfl, rfl, by decide +kernel, rfl, by decide +kernel, by decide +kernel⟩
abbrev s__law_row : Stmt := topS 40
abbrev N__law_row : List Str := ["box", "tag", "name", "deep", "kind", "shapes", "values", "entries", "fields"]
theorem sc__law_row : FnScope N__law_row ["box", "tag", "name", "deep"] (defScope s__law_row) := ⟨rfl, rfl, rfl, by decide +kernel, rfl, by decide +kernel, by decide +kernel⟩
abbrev s__law_level : Stmt := topS 41
abbrev N__law_level : List Str := ["box", "deep", "entries", "fields", "heads", "tags", "k", "names", "name", "entry", "value"]
theorem sc__law_level : FnScope N__law_level ["box", "deep"] (defScope s__law_level) := ⟨rfl, rfl, rfl, by decide +kernel, rfl, by decide +kernel, by decide +kernel⟩
abbrev s__law_other : Stmt := topS 42
abbrev N__law_other : List Str := ["box", "value", "kind"]
theorem sc__law_other : FnScope N__law_other ["box", "value"] (defScope s__law_other) := ⟨rfl, rfl, rfl, by decide +kernel, rfl, by decide +kernel, by decide +kernel⟩
abbrev s__law_changed : Stmt := topS 43
abbrev N__law_changed : List Str := ["box", "fields", "at", "label", "value", "kind"]
theorem sc__law_changed : FnScope N__law_changed ["box", "fields"] (defScope s__law_changed) := ⟨rfl, rfl, rfl, by decide +kernel, rfl, by decide +kernel, by decide +kernel⟩
abbrev s_law : Stmt := topS 44
abbrev N_law : List Str := ["script", "box", "entries", "fields", "names", "depth"]
theorem sc_law : FnScope N_law ["script"] (defScope s_law) := ⟨rfl, rfl, rfl, by decide +kernel, rfl, by decide +kernel, by decide +kernel⟩
structure Adr where
  f_direct_parts : Addr
  d_direct_parts : FuncData
  f_with_parts : Addr
  d_with_parts : FuncData
  f_replace_variables : Addr
  d_replace_variables : FuncData
  f_constructor_entries : Addr
  d_constructor_entries : FuncData
  f_constructors_of : Addr
  d_constructors_of : FuncData
  f_agrees_with_entry : Addr
  d_agrees_with_entry : FuncData
  f_agrees_with_constructor : Addr
  d_agrees_with_constructor : FuncData
  f_agrees : Addr
  d_agrees : FuncData
  f_label_of : Addr
  d_label_of : FuncData
  f_ordered_fields : Addr
  d_ordered_fields : FuncData
  f_agrees_with_field : Addr
  d_agrees_with_field : FuncData
  f_agrees_with_level : Addr
  d_agrees_with_level : FuncData
  f__law_box : Addr
  d__law_box : FuncData
  f__law_load : Addr
  d__law_load : FuncData
  f__law_draw : Addr
  d__law_draw : FuncData
  f__law_row : Addr
  d__law_row : FuncData
  f__law_level : Addr
  d__law_level : FuncData
  f__law_other : Addr
  d__law_other : FuncData
  f__law_changed : Addr
  d__law_changed : FuncData
  f_law : Addr
  d_law : FuncData
  c_INT : Addr
  c_UNIT : Addr
  c_EXN : Addr
  c_BASIS : Addr
structure Txt (K : PySem.W.Frag) (mg : Str → Option Value) (A : Adr) : Prop where
  F_direct_parts : Fun K "direct_parts" "direct_parts" s_direct_parts A.f_direct_parts A.d_direct_parts
  b_direct_parts : Binds K A.d_direct_parts ["shape"] []
  g_direct_parts : mg "direct_parts" = some (.ref A.f_direct_parts)
  F_with_parts : Fun K "with_parts" "with_parts" s_with_parts A.f_with_parts A.d_with_parts
  b_with_parts : Binds K A.d_with_parts ["shape", "new_parts"] []
  g_with_parts : mg "with_parts" = some (.ref A.f_with_parts)
  F_replace_variables : Fun K "replace_variables" "replace_variables" s_replace_variables A.f_replace_variables A.d_replace_variables
  b_replace_variables : Binds K A.d_replace_variables ["shape", "mapping"] []
  g_replace_variables : mg "replace_variables" = some (.ref A.f_replace_variables)
  F_constructor_entries : Fun K "constructor_entries" "constructor_entries" s_constructor_entries A.f_constructor_entries A.d_constructor_entries
  b_constructor_entries : Binds K A.d_constructor_entries ["entries"] []
  g_constructor_entries : mg "constructor_entries" = some (.ref A.f_constructor_entries)
  F_constructors_of : Fun K "constructors_of" "constructors_of" s_constructors_of A.f_constructors_of A.d_constructors_of
  b_constructors_of : Binds K A.d_constructors_of ["entries", "stamp"] []
  g_constructors_of : mg "constructors_of" = some (.ref A.f_constructors_of)
  F_agrees_with_entry : Fun K "agrees_with_entry" "agrees_with_entry" s_agrees_with_entry A.f_agrees_with_entry A.d_agrees_with_entry
  b_agrees_with_entry : Binds K A.d_agrees_with_entry ["entries", "entry", "args", "value", "store", "depth"] []
  g_agrees_with_entry : mg "agrees_with_entry" = some (.ref A.f_agrees_with_entry)
  F_agrees_with_constructor : Fun K "agrees_with_constructor" "agrees_with_constructor" s_agrees_with_constructor A.f_agrees_with_constructor A.d_agrees_with_constructor
  b_agrees_with_constructor : Binds K A.d_agrees_with_constructor ["entries", "shape", "value", "store", "depth"] []
  g_agrees_with_constructor : mg "agrees_with_constructor" = some (.ref A.f_agrees_with_constructor)
  F_agrees : Fun K "agrees" "agrees" s_agrees A.f_agrees A.d_agrees
  b_agrees : Binds K A.d_agrees ["entries", "shape", "value", "store", "depth"] []
  g_agrees : mg "agrees" = some (.ref A.f_agrees)
  F_label_of : Fun K "label_of" "label_of" s_label_of A.f_label_of A.d_label_of
  b_label_of : Binds K A.d_label_of ["entry"] []
  g_label_of : mg "label_of" = some (.ref A.f_label_of)
  F_ordered_fields : Fun K "ordered_fields" "ordered_fields" s_ordered_fields A.f_ordered_fields A.d_ordered_fields
  b_ordered_fields : Binds K A.d_ordered_fields ["level"] []
  g_ordered_fields : mg "ordered_fields" = some (.ref A.f_ordered_fields)
  F_agrees_with_field : Fun K "agrees_with_field" "agrees_with_field" s_agrees_with_field A.f_agrees_with_field A.d_agrees_with_field
  b_agrees_with_field : Binds K A.d_agrees_with_field ["entries", "entry", "value", "store", "depth"] []
  g_agrees_with_field : mg "agrees_with_field" = some (.ref A.f_agrees_with_field)
  F_agrees_with_level : Fun K "agrees_with_level" "agrees_with_level" s_agrees_with_level A.f_agrees_with_level A.d_agrees_with_level
  b_agrees_with_level : Binds K A.d_agrees_with_level ["entries", "level", "value", "store", "depth"] []
  g_agrees_with_level : mg "agrees_with_level" = some (.ref A.f_agrees_with_level)
  F__law_box : Fun K "_law_box" "_law_box" s__law_box A.f__law_box A.d__law_box
  b__law_box : Binds K A.d__law_box ["script", "nodes"] []
  g__law_box : mg "_law_box" = some (.ref A.f__law_box)
  F__law_load : Fun K "_law_load" "_law_load" s__law_load A.f__law_load A.d__law_load
  b__law_load : Binds K A.d__law_load ["box"] []
  g__law_load : mg "_law_load" = some (.ref A.f__law_load)
  F__law_draw : Fun K "_law_draw" "_law_draw" s__law_draw A.f__law_draw A.d__law_draw
  b__law_draw : Binds K A.d__law_draw ["box", "many"] []
  g__law_draw : mg "_law_draw" = some (.ref A.f__law_draw)
  F__law_row : Fun K "_law_row" "_law_row" s__law_row A.f__law_row A.d__law_row
  b__law_row : Binds K A.d__law_row ["box", "tag", "name", "deep"] []
  g__law_row : mg "_law_row" = some (.ref A.f__law_row)
  F__law_level : Fun K "_law_level" "_law_level" s__law_level A.f__law_level A.d__law_level
  b__law_level : Binds K A.d__law_level ["box", "deep"] []
  g__law_level : mg "_law_level" = some (.ref A.f__law_level)
  F__law_other : Fun K "_law_other" "_law_other" s__law_other A.f__law_other A.d__law_other
  b__law_other : Binds K A.d__law_other ["box", "value"] []
  g__law_other : mg "_law_other" = some (.ref A.f__law_other)
  F__law_changed : Fun K "_law_changed" "_law_changed" s__law_changed A.f__law_changed A.d__law_changed
  b__law_changed : Binds K A.d__law_changed ["box", "fields"] []
  g__law_changed : mg "_law_changed" = some (.ref A.f__law_changed)
  F_law : Fun K "law" "law" s_law A.f_law A.d_law
  b_law : Binds K A.d_law ["script"] []
  g_law : mg "law" = some (.ref A.f_law)
  g_INT : mg "INT" = some (.ref A.c_INT)
  y_INT : ∀ H, GD.Rp K H (.ref A.c_INT) INT_D
  g_UNIT : mg "UNIT" = some (.ref A.c_UNIT)
  y_UNIT : ∀ H, GD.Rp K H (.ref A.c_UNIT) UNIT_D
  g_EXN : mg "EXN" = some (.ref A.c_EXN)
  y_EXN : ∀ H, GD.Rp K H (.ref A.c_EXN) EXN_D
  g_BASIS : mg "BASIS" = some (.ref A.c_BASIS)
  y_BASIS : ∀ H, GD.Rp K H (.ref A.c_BASIS) BASIS_D
  n_int : mg "int" = none
  n_len : mg "len" = none
  n_list : mg "list" = none
  n_range : mg "range" = none
  n_sorted : mg "sorted" = none
  n_tuple : mg "tuple" = none
  n_zip : mg "zip" = none
end K89

set_option Elab.async false
set_option maxRecDepth 100000
set_option linter.all false
set_option maxHeartbeats 4000000
namespace K89
open PySem L2 GD
section
variable {P : Program} {w : World} {K : PySem.W.Frag} {mg : Str → Option Value} {base : Heap} {A : Adr}
abbrev nums (ns : List Int) : List V := ns.map V.int
/-- but for two -/
def Bx (b c : Addr) (H H' : Hp) : Prop := ∀ a, a ≠ b → a ≠ c → H' a = H a
theorem Bx.refl {b c : Addr} {H : Hp} : Bx b c H H := fun _ _ _ => rfl
theorem Bx.trans {b c : Addr} {H H1 H2 : Hp} (h : Bx b c H H1) (k : Bx b c H1 H2) : Bx b c H H2 := fun a n1 n2 => (k a n1 n2).trans (h a n1 n2)
theorem Bx.upd1 {b c : Addr} {H : Hp} {o : HO} : Bx b c H (upd H b o) := fun a n _ => upd_ne n
theorem Bx.upd2 {b c : Addr} {H : Hp} {o : HO} : Bx b c H (upd H c o) := fun a _ n => upd_ne n
def BoxAt (H : Hp) (b c : Addr) : Prop := ∃ (ns : List Int) (n m k : Int), H b = some (.lst [.ref c, .int n, .int m, .int k]) ∧ H c = some (.lst (nums ns)) ∧ ns.length ≤ 63
theorem BoxAt.ne {H : Hp} {b c : Addr} (h : BoxAt H b c) : b ≠ c := by
  obtain ⟨ns, n, m, k, h1, h2, _⟩ := h
  refine ne_of h1 h2 fun e => ?_
  cases ns with
  | nil => cases e
  | cons x r => cases e
theorem BoxAt.keep {H H' : Hp} {b c : Addr} (h : BoxAt H b c) (k : ∀ a o, H a = some o → (a = b ∨ a = c) → H' a = some o) : BoxAt H' b c := by
  obtain ⟨ns, n, m, k0, h1, h2, h3⟩ := h
  exact ⟨ns, n, m, k0, k _ _ h1 (.inl rfl), k _ _ h2 (.inr rfl), h3⟩
theorem BoxAt.kt {H H' : Hp} {b c : Addr} (h : BoxAt H b c) (k : Bx b c H H') : KT H H' := by
  obtain ⟨ns, n, m, k0, h1, h2, h3⟩ := h
  intro a xs q
  have n1 : a ≠ b := fun z => NT.lst h1 xs (by rw [z] at q; exact q)
  have n2 : a ≠ c := fun z => NT.lst h2 xs (by rw [z] at q; exact q)
  unfold Rd
  rw [k a n1 n2]
  exact q
theorem BoxAt.at_b {H : Hp} {b c : Addr} (h : BoxAt H b c) : ∃ o, H b = some o := let ⟨_, _, _, _, e, _⟩ := h; ⟨_, e⟩
theorem BoxAt.at_c {H : Hp} {b c : Addr} (h : BoxAt H b c) : ∃ o, H c = some o := let ⟨_, _, _, _, _, e, _⟩ := h; ⟨_, e⟩
def spBox (K : PySem.W.Frag) : Sp := fun vs H Q _ => ∃ (a : Addr) (ns : List Int) (k : Int), vs = [.ref a, .int k] ∧ SqL K H a (nums ns) ∧ ns.length ≤ 63 ∧
  ∀ (b c : Addr) (H' : Hp), H b = none → H c = none → (∀ a o, H a = some o → H' a = some o) → BoxAt H' b c → Q (.ref b) H'
theorem ok__law_box (T : Txt K mg A) : FnOk P w K mg base CX0 1 A.f__law_box A.d__law_box ["script", "nodes"] (spBox K) := by
  refine T.F__law_box.ok sc__law_box (fun vs H Q E h => ?_) (fun cdv Ar outer s H vs Q E hr h => ?_)
  · obtain ⟨a, ns, k, rfl, _⟩ := h
    rfl
  · obtain ⟨a, ns, n, rfl, hS, hl, k⟩ := h
    refine ⟨_, (pss_one (ps_ret (pe_lst (pa_cons (pe_callTy call_list_of (by rfl) T.n_list (by decide +kernel) (pa_cons (pv 0) pa_nil)) (pa_cons pe_int (pa_cons (pe_op op_add pe_int (pe_callB call_len_seq (by rfl) T.n_len PySem.boot_len (pa_cons (pv 0) pa_nil))) (pa_cons (pv 1) pa_nil))))))), ?_⟩
    refine ⟨_, rfl, a, _, rfl, .inl hS, fun c hc => ?_⟩
    have nac : ∀ o, H a = some o → a ≠ c := fun o e => ne_of_none e hc
    have hS2 : SqL K (upd H c (.lst (nums ns))) a (nums ns) := by
      rcases hS with hS | hS
      · refine .inl ?_
        rcases hS with e | ⟨o, e⟩
        · exact .inl (by rw [upd_ne (ne_of_none e hc)]; exact e)
        · exact .inr ⟨o, by rw [upd_ne (ne_of_none e hc)]; exact e⟩
      · exact .inr hS
    refine ⟨_, rfl, a, _, rfl, .inl hS2, _, _, rfl, rfl, _, rfl, (show 4 ≤ sizeLine by decide), fun b hb => ?_⟩
    have ncb : c ≠ b := ne_of_none upd_same hb
    have hb0 : H b = none := by rw [upd_ne ncb.symm] at hb; exact hb
    refine k b c _ hb0 hc (fun x o e => ?_) ⟨ns, 0, 4711 + ((nums ns).length : Int), n, upd_same, ?_, hl⟩
    · rw [upd_ne (ne_of_none e hb0), upd_ne (ne_of_none e hc)]
      exact e
    · rw [upd_ne ncb, upd_same]
def spLoad : Sp := fun vs H Q _ => ∃ (b c : Addr), vs = [.ref b] ∧ BoxAt H b c ∧ ∀ (r : Int) (H' : Hp), Bx b c H H' → BoxAt H' b c → Q (.int r) H'
theorem ok__law_load (T : Txt K mg A) : FnOk P w K mg base CX0 1 A.f__law_load A.d__law_load ["box"] spLoad := by
  refine T.F__law_load.ok sc__law_load (fun vs H Q E h => ?_) (fun cdv Ar outer s H vs Q E hr h => ?_)
  · obtain ⟨b, c, rfl, _⟩ := h
    rfl
  · obtain ⟨b, c, rfl, hB, k⟩ := h
    have nbc := hB.ne
    obtain ⟨ns, n, m, k0, hb, hc, hl⟩ := hB
    refine ⟨_, (pss_cons (ps_set (i := 1) sc__law_load.nd rfl (Or.inl rfl) (pe_ix (ixl (K := K) rfl) (pv 0) pe_int (fun _ _ => rfl))) (Evl.pss_cut (ps_if (pt_cmpR op_gt (pe_callB call_len_seq (by rfl) T.n_len PySem.boot_len (pa_cons (pv 1) pa_nil)) pe_int (nomark _)) (pss_cons (ps_set (i := 2) sc__law_load.nd rfl (Or.inl rfl) (pe_callTy call_int1 (by rfl) T.n_int (by decide +kernel) (pa_cons (pe_bm PySem.F.plainAttrs_list PySem.F.slot_list_pop PySem.F.type_list_pop mt_popAt (pv 1) (pa_cons pe_int pa_nil)) pa_nil))) (pss_cons (ps_set (i := 3) sc__law_load.nd rfl (Or.inl rfl) (pe_ifExp (pt_cmpR op_ge (pv 2) pe_int (nomark _)) (pe_op op_mul pe_int (pv 2)) (pe_op op_sub (pe_op op_mul (pe_un un_neg pe_int) (pv 2)) pe_int))) (pss_cons (ps_if (pt_cmpR op_ge (pv 3) pe_int (nomark _)) (pss_one (ps_ret (pv 3))) pss_nil) (pss_one (ps_asg (pe_op op_mod (pe_callTy call_int1 (by rfl) T.n_int (by decide +kernel) (pa_cons (pe_op op_add (pe_op op_add (pe_op op_mul (pe_ix (ixl (K := K) rfl) (pv 0) pe_int (fun _ _ => rfl)) pe_int) (pe_op op_mul (pv 3) pe_int)) pe_int) pa_nil)) pe_int) (pg_sub (pv 0) pe_int set_list)))))) pss_nil) (pss_cons (ps_set (i := 4) sc__law_load.nd rfl (Or.inl rfl) (pe_op op_mod (pe_callTy call_int1 (by rfl) T.n_int (by decide +kernel) (pa_cons (pe_op op_add (pe_op op_mul (pe_ix (ixl (K := K) rfl) (pv 0) pe_int (fun _ _ => rfl)) pe_int) pe_int) pa_nil)) pe_int)) (pss_cons (ps_set (i := 5) sc__law_load.nd rfl (Or.inl rfl) (pe_op op_mod (pe_callTy call_int1 (by rfl) T.n_int (by decide +kernel) (pa_cons (pe_op op_add (pe_op op_mul (pv 4) pe_int) pe_int) pa_nil)) pe_int)) (pss_cons (ps_asg (pe_op op_mod (pe_callTy call_int1 (by rfl) T.n_int (by decide +kernel) (pa_cons (pe_op op_add (pe_op op_mul (pv 5) pe_int) pe_int) pa_nil)) pe_int) (pg_sub (pv 0) pe_int set_list)) (pss_one (ps_ret (pe_op op_add (pe_op op_add (pe_op op_mul (pv 4) pe_int) (pe_op op_mul (pv 5) pe_int)) (pe_ix (ixl (K := K) rfl) (pv 0) pe_int (fun _ _ => rfl)))))))))), ?_⟩
    refine ⟨_, rfl, b, _, _, _, rfl, rfl, SqL.of hb, rfl, ?_⟩
    refine ⟨fun σ' H' => ∃ (v2 v3 : Option V), σ' = [some (.ref b), some (.ref c), v2, v3, none, none] ∧ Bx b c H H' ∧ BoxAt H' b c, ?_, ?_⟩
    · refine ⟨_, rfl, c, _, rfl, .inl (SqL.of hc), _, _, rfl, rfl, _, rfl, ite2 (fun c1 => ?_) (fun c1 => ?_)⟩
      · cases ns with
        | nil => cases (of_decide_eq_true c1 : (0 : Int) < ((nums ([] : List Int)).length : Int))
        | cons x ns' =>
          refine ⟨_, rfl, .inl ⟨rfl, _, SqL.of hc⟩, c, _, 0, 0, .int x, rfl, rfl, hc, by decide, by decide, (ixN_seq (n := (nums (x :: ns')).length) (i := 0) (j := 0) (by unfold ixN; rw [if_pos (by decide), if_pos (by simp only [List.length_map, List.length_cons]; omega)]; rfl)).1, rfl, .inl ⟨_, rfl, ?_⟩⟩
          have hb1 : ∀ o : HO, (upd H c o) b = some (.lst [.ref c, .int n, .int m, .int k0]) := fun o => by rw [upd_ne nbc]; exact hb
          have hl' : ns'.length ≤ 63 := by have := hl; simp only [List.length_cons] at this; omega
          refine ⟨_, rfl, _, _, rfl, rfl, _, rfl, ite2 (fun c2 => ?_) (fun c2 => ?_)⟩
          all_goals
            first
              | refine ⟨_, rfl, _, _, rfl, rfl, .inl ⟨by decide, by decide⟩, ?_⟩
              | refine ⟨_, rfl, _, rfl, _, _, rfl, rfl, .inl ⟨by decide, by decide⟩, _, _, rfl, rfl, ?_⟩
            refine ⟨_, rfl, _, _, rfl, rfl, _, rfl, ite2 (fun c3 => ?_) (fun c3 => ?_)⟩
            · exact ⟨_, rfl, k _ _ .upd2 ⟨ns', n, m, k0, hb1 _, upd_same, hl'⟩⟩
            · refine ⟨_, rfl, b, _, _, _, rfl, rfl, SqL.of (hb1 _), rfl, _, _, rfl, rfl, .inr ⟨by decide, by decide⟩, _, rfl, _, _, rfl, rfl, .inr ⟨by decide, by decide⟩, _, _, rfl, rfl, _, _, rfl, rfl, .inl ⟨_, rfl, _, _, rfl, rfl, (show (0 : Int) < 2147483647 by decide), ?_⟩⟩
              refine ⟨_, rfl, b, _, _, 2, rfl, rfl, hb1 _, rfl, _, _, rfl, Bx.upd2.trans .upd1, ns', n, _, k0, upd_same, ?_, hl'⟩
              rw [upd_ne nbc.symm, upd_same]
              rfl
      · exact ⟨none, none, rfl, .refl, ns, n, m, k0, hb, hc, hl⟩
    · rintro σ' H1 ⟨v2, v3, rfl, hB1, ns1, n1, m1, k1, hb1, hc1, hl1⟩
      have h0 := Int.emod_nonneg (m1 * 48271 + 17) (show (2147483629 : Int) ≠ 0 by decide)
      refine ⟨_, rfl, b, _, _, _, rfl, rfl, SqL.of hb1, rfl, _, _, rfl, rfl, .inr ⟨by decide, by decide⟩, _, _, rfl, rfl, .inl ⟨_, rfl, _, _, rfl, rfl, (show (0 : Int) < 2147483629 by decide), ?_⟩⟩
      refine ⟨_, rfl, _, _, rfl, rfl, .inr ⟨by decide, by decide⟩, _, _, rfl, rfl, .inl ⟨_, rfl, _, _, rfl, rfl, (show (0 : Int) < 2147483587 by decide), ?_⟩⟩
      refine ⟨_, rfl, _, _, rfl, rfl, .inr ⟨by decide, by decide⟩, _, _, rfl, rfl, .inl ⟨_, rfl, _, _, rfl, rfl, (show (0 : Int) < 2147483563 by decide), ?_⟩⟩
      refine ⟨_, rfl, b, _, _, 2, rfl, rfl, hb1, rfl, ?_⟩
      refine ⟨_, rfl, _, _, rfl, rfl, .inr ⟨by decide, by decide⟩, _, rfl, _, _, rfl, rfl, .inr ⟨by decide, by decide⟩, _, _, rfl, rfl, _, rfl, b, _, _, _, rfl, rfl, SqL.of upd_same, rfl, _, _, rfl, rfl, ?_⟩
      exact k _ _ (hB1.trans .upd1) ⟨ns1, n1, _, k1, upd_same, by rw [upd_ne nbc.symm]; exact hc1, hl1⟩
def spDraw : Sp := fun vs H Q _ => ∃ (b c : Addr) (many : Int), vs = [.ref b, .int many] ∧ 0 < many ∧ many < 1073741824 ∧ BoxAt H b c ∧ ∀ (r : Int) (H' : Hp), 0 ≤ r → r < many → Bx b c H H' → BoxAt H' b c → Q (.int r) H'
theorem ok__law_draw (T : Txt K mg A) : FnOk P w K mg base CX0 2 A.f__law_draw A.d__law_draw ["box", "many"] spDraw := by
  have G__law_load : FnOk P w K mg base CX0 1 A.f__law_load A.d__law_load _ _ := ok__law_load T
  refine T.F__law_draw.ok sc__law_draw (fun vs H Q E h => ?_) (fun cdv Ar outer s H vs Q E hr h => ?_)
  · obtain ⟨b, c, many, rfl, _⟩ := h
    rfl
  · obtain ⟨b, c, many, rfl, hm0, hm1, hB, k⟩ := h
    have nbc := hB.ne
    refine ⟨_, (Evl.pss_cut (ps_if (pt_cmpR op_lt (pe_ix (ixl (K := K) rfl) (pv 0) pe_int (fun _ _ => rfl)) (pv 1) (nomark _)) (pss_one (ps_asg (pe_call G__law_load (hr.mono (by first | decide | omega)) rfl T.g__law_load T.F__law_load.kp T.b__law_load .nil pass0 (pa_cons (pv 0) pa_nil)) (pg_sub (pv 0) pe_int set_list))) pss_nil) (pss_cons (ps_set (i := 2) sc__law_draw.nd rfl (Or.inl rfl) (pe_op op_mod (pe_callTy call_int1 (by rfl) T.n_int (by decide +kernel) (pa_cons (pe_ix (ixl (K := K) rfl) (pv 0) pe_int (fun _ _ => rfl)) pa_nil)) (pv 1))) (pss_cons (ps_asg (pe_op op_fdiv (pe_ix (ixl (K := K) rfl) (pv 0) pe_int (fun _ _ => rfl)) (pv 1)) (pg_sub (pv 0) pe_int set_list)) (pss_one (ps_ret (pv 2)))))), ?_⟩
    refine ⟨fun σ' H' => σ' = [some (.ref b), some (.int many), none] ∧ Bx b c H H' ∧ BoxAt H' b c, ?_, ?_⟩
    · have hB0 := hB
      obtain ⟨ns, n, m, k0, hb, hc, hl⟩ := hB
      refine ⟨_, rfl, b, _, _, _, rfl, rfl, SqL.of hb, rfl, _, rfl, _, _, rfl, rfl, _, rfl, ite2 (fun c1 => ?_) (fun c1 => ?_)⟩
      · refine ⟨_, rfl, b, c, rfl, hB0, fun r H1 hB1 ⟨ns1, n1, m1, k1, hb1, hc1, hl1⟩ => ?_⟩
        refine ⟨_, rfl, b, _, _, 1, rfl, rfl, hb1, rfl, rfl, hB1.trans .upd1, ns1, r, m1, k1, upd_same, by rw [upd_ne nbc.symm]; exact hc1, hl1⟩
      · exact ⟨rfl, .refl, hB0⟩
    · rintro σ' H1 ⟨rfl, hB1, ns, n, m, k0, hb, hc, hl⟩
      refine ⟨_, rfl, b, _, _, _, rfl, rfl, SqL.of hb, rfl, .inl ⟨_, rfl, _, rfl, _, _, rfl, rfl, hm0, ?_⟩⟩
      refine ⟨_, rfl, b, _, _, _, rfl, rfl, SqL.of hb, rfl, _, rfl, _, _, rfl, rfl, ⟨hm0, hm1⟩, _, rfl, b, _, _, 1, rfl, rfl, hb, rfl, ?_⟩
      exact ⟨_, rfl, k _ _ (Int.emod_nonneg _ (by omega)) (Int.emod_lt_of_pos _ hm0) (hB1.trans .upd1) ⟨ns, n / many, m, k0, upd_same, by rw [upd_ne nbc.symm]; exact hc, hl⟩⟩
end
end K89

set_option Elab.async false
set_option maxRecDepth 100000
set_option linter.all false
set_option maxHeartbeats 4000000
namespace K89
open PySem L2 GD AG
section
variable {P : Program} {w : World} {K : PySem.W.Frag} {mg : Str → Option Value} {base : Heap} {A : Adr}
abbrev Sm (H H' : Hp) : Prop := ∀ a o, H a = some o → H' a = some o
theorem Sm.new {H : Hp} {p : Addr} {o : HO} (h : H p = none) : Sm H (upd H p o) := fun a u e => by
  rw [upd_ne (ne_of_none e h)]
  exact e
theorem Sm.on {H H1 : Hp} {p : Addr} {o : HO} (s : Sm H H1) (h : H1 p = none) : Sm H (upd H1 p o) := fun a u e => Sm.new h a u (s a u e)
theorem Sm.free {H H1 : Hp} {p : Addr} (s : Sm H H1) (h : H1 p = none) : H p = none := by
  cases e : H p with
  | none => rfl
  | some o =>
    rw [s _ _ e] at h
    cases h
/-- an object that was not there changes -/
theorem Sm.upd {H H1 : Hp} {p : Addr} {o : HO} (s : Sm H H1) (h : H p = none) : Sm H (L2.upd H1 p o) := fun a u e => by
  rw [upd_ne (ne_of_none e h)]
  exact s a u e
def spParts (K : PySem.W.Frag) : Sp := fun vs H Q _ => ∃ (x : V) (sh : Sh), vs = [x] ∧ Rp K H x sh.d ∧ ∀ (a : Addr) (ys : List V) (H' : Hp), Sm H H' → SqT K H' a ys → RpAll K H' ys (Sh.ds sh.parts) → Q (.ref a) H'
theorem ok_parts (T : Txt K mg A) : FnOk P w K mg base CX0 1 A.f_direct_parts A.d_direct_parts ["shape"] (spParts K) := by
  refine T.F_direct_parts.ok sc_direct_parts (fun vs H Q E h => ?_) (fun cdv Ar outer s H vs Q E hr h => ?_)
  · obtain ⟨x, sh, rfl, _⟩ := h
    rfl
  · obtain ⟨x, sh, rfl, hx, k⟩ := h
    refine ⟨_, (pss_cons (ps_if (pt_cmpR op_eq (pe_ix (ixt (K := K) rfl) (pv 0) pe_int (fun _ _ => rfl)) pe_str (nomark _)) (pss_one (ps_ret (pe_tup pa_nil))) pss_nil) (pss_cons (ps_if (pt_cmpR op_eq (pe_ix (ixt (K := K) rfl) (pv 0) pe_int (fun _ _ => rfl)) pe_str (nomark _)) (pss_one (ps_ret (pe_ix (ixt (K := K) rfl) (pv 0) pe_int (fun _ _ => rfl)))) pss_nil) (pss_cons (ps_if (pt_cmpR op_eq (pe_ix (ixt (K := K) rfl) (pv 0) pe_int (fun _ _ => rfl)) pe_str (nomark _)) (pss_one (ps_ret (pe_ix (ixt (K := K) rfl) (pv 0) pe_int (fun _ _ => rfl)))) pss_nil) (pss_one (ps_ret (pe_tup (pa_cons (pe_ix (ixt (K := K) rfl) (pv 0) pe_int (fun _ _ => rfl)) (pa_cons (pe_ix (ixt (K := K) rfl) (pv 0) pe_int (fun _ _ => rfl)) pa_nil)))))))), ?_⟩
    cases sh with
    | v n =>
      obtain ⟨a, rfl, hs⟩ := inv_v hx
      refine ⟨_, rfl, a, _, _, _, rfl, rfl, hs, rfl, rfl, _, rfl, iteY (by decide +kernel) ?_⟩
      refine ⟨Nat.zero_le _, fun p hp => ?_⟩
      exact k p [] _ (Sm.new hp) (.inl (Rd.of upd_same)) .nil
    | c n l =>
      obtain ⟨a, g, gs, rfl, hs, hg, hl⟩ := inv_c hx
      refine ⟨_, rfl, a, _, _, _, rfl, rfl, hs, rfl, rfl, _, rfl, iteN (by decide +kernel) ?_⟩
      refine ⟨_, rfl, a, _, _, _, rfl, rfl, hs, rfl, rfl, _, rfl, iteY (by decide +kernel) ?_⟩
      exact ⟨_, rfl, a, _, _, _, rfl, rfl, hs, rfl, k g gs H (fun _ _ e => e) hg hl⟩
    | t l =>
      obtain ⟨a, g, gs, rfl, hs, hg, hl⟩ := inv_t hx
      refine ⟨_, rfl, a, _, _, _, rfl, rfl, hs, rfl, rfl, _, rfl, iteN (by decide +kernel) ?_⟩
      refine ⟨_, rfl, a, _, _, _, rfl, rfl, hs, rfl, rfl, _, rfl, iteN (by decide +kernel) ?_⟩
      refine ⟨_, rfl, a, _, _, _, rfl, rfl, hs, rfl, rfl, _, rfl, iteY (by decide +kernel) ?_⟩
      exact ⟨_, rfl, a, _, _, _, rfl, rfl, hs, rfl, k g gs H (fun _ _ e => e) hg hl⟩
    | f y z =>
      obtain ⟨a, v1, v2, rfl, hs, h1, h2⟩ := inv_f hx
      refine ⟨_, rfl, a, _, _, _, rfl, rfl, hs, rfl, rfl, _, rfl, iteN (by decide +kernel) ?_⟩
      refine ⟨_, rfl, a, _, _, _, rfl, rfl, hs, rfl, rfl, _, rfl, iteN (by decide +kernel) ?_⟩
      refine ⟨_, rfl, a, _, _, _, rfl, rfl, hs, rfl, rfl, _, rfl, iteN (by decide +kernel) ?_⟩
      refine ⟨_, rfl, a, _, _, _, rfl, rfl, hs, rfl, _, rfl, a, _, _, _, rfl, rfl, hs, rfl, (show 2 ≤ sizeLine by decide), fun p hp => ?_⟩
      have kt := KT.upd_new (o := .tup [v1, v2]) hp
      refine k p [v1, v2] _ (Sm.new hp) (.inl (Rd.of upd_same)) ?_
      exact .cons (h1.on kt) (.cons (h2.on kt) .nil)
def spWith (K : PySem.W.Frag) : Sp := fun vs H Q _ => ∃ (x : V) (sh : Sh) (g : Addr) (gs : List V) (l : List Sh), vs = [x, .ref g] ∧ Rp K H x sh.d ∧ SqT K H g gs ∧ RpAll K H gs (Sh.ds l) ∧ l.length = sh.parts.length ∧
  ∀ (r : V) (H' : Hp), Sm H H' → Rp K H' r (sh.withP l).d → Q r H'
theorem ok_with (T : Txt K mg A) : FnOk P w K mg base CX0 1 A.f_with_parts A.d_with_parts ["shape", "new_parts"] (spWith K) := by
  refine T.F_with_parts.ok sc_with_parts (fun vs H Q E h => ?_) (fun cdv Ar outer s H vs Q E hr h => ?_)
  · obtain ⟨x, sh, g, gs, l, rfl, _⟩ := h
    rfl
  · obtain ⟨x, sh, g, gs, l, rfl, hx, hg, hl, hn, k⟩ := h
    refine ⟨_, (pss_cons (ps_if (pt_cmpR op_eq (pe_ix (ixt (K := K) rfl) (pv 0) pe_int (fun _ _ => rfl)) pe_str (nomark _)) (pss_one (ps_ret (pv 0))) pss_nil) (pss_cons (ps_if (pt_cmpR op_eq (pe_ix (ixt (K := K) rfl) (pv 0) pe_int (fun _ _ => rfl)) pe_str (nomark _)) (pss_one (ps_ret (pe_tup (pa_cons pe_str (pa_cons (pe_ix (ixt (K := K) rfl) (pv 0) pe_int (fun _ _ => rfl)) (pa_cons (pv 1) pa_nil)))))) pss_nil) (pss_cons (ps_if (pt_cmpR op_eq (pe_ix (ixt (K := K) rfl) (pv 0) pe_int (fun _ _ => rfl)) pe_str (nomark _)) (pss_one (ps_ret (pe_tup (pa_cons pe_str (pa_cons (pv 1) pa_nil))))) pss_nil) (pss_one (ps_ret (pe_tup (pa_cons pe_str (pa_cons (pe_ix (ixt (K := K) rfl) (pv 1) pe_int (fun _ _ => rfl)) (pa_cons (pe_ix (ixt (K := K) rfl) (pv 1) pe_int (fun _ _ => rfl)) pa_nil))))))))), ?_⟩
    cases sh with
    | v n =>
      have hx0 := hx
      obtain ⟨a, rfl, hs⟩ := inv_v hx
      refine ⟨_, rfl, a, _, _, _, rfl, rfl, hs, rfl, rfl, _, rfl, iteY (by decide +kernel) ?_⟩
      exact ⟨_, rfl, k _ _ (fun _ _ e => e) hx0⟩
    | c n l0 =>
      obtain ⟨a, g0, gs0, rfl, hs, _, _⟩ := inv_c hx
      refine ⟨_, rfl, a, _, _, _, rfl, rfl, hs, rfl, rfl, _, rfl, iteN (by decide +kernel) ?_⟩
      refine ⟨_, rfl, a, _, _, _, rfl, rfl, hs, rfl, rfl, _, rfl, iteY (by decide +kernel) ?_⟩
      refine ⟨_, rfl, a, _, _, _, rfl, rfl, hs, rfl, _, rfl, (show 3 ≤ sizeLine by decide), fun p hp => ?_⟩
      refine k _ _ (Sm.new hp) ?_
      simp only [Sh.withP, Sh.d]
      have kt := KT.upd_new (o := .tup [.str "c", .int n, .ref g]) hp
      exact Rp.mk upd_same (.cons (.str _ (by decide +kernel)) (.cons (.int _) (.cons (.tup (kt.sqt hg) (hl.on kt)) .nil)))
    | t l0 =>
      obtain ⟨a, g0, gs0, rfl, hs, _, _⟩ := inv_t hx
      refine ⟨_, rfl, a, _, _, _, rfl, rfl, hs, rfl, rfl, _, rfl, iteN (by decide +kernel) ?_⟩
      refine ⟨_, rfl, a, _, _, _, rfl, rfl, hs, rfl, rfl, _, rfl, iteN (by decide +kernel) ?_⟩
      refine ⟨_, rfl, a, _, _, _, rfl, rfl, hs, rfl, rfl, _, rfl, iteY (by decide +kernel) ?_⟩
      refine ⟨_, rfl, (show 2 ≤ sizeLine by decide), fun p hp => ?_⟩
      refine k _ _ (Sm.new hp) ?_
      simp only [Sh.withP, Sh.d]
      have kt := KT.upd_new (o := .tup [.str "t", .ref g]) hp
      exact Rp.mk upd_same (.cons (.str _ (by decide +kernel)) (.cons (.tup (kt.sqt hg) (hl.on kt)) .nil))
    | f y z =>
      obtain ⟨a, v1, v2, rfl, hs, _, _⟩ := inv_f hx
      match l, hn, hl with
      | [l1, l2], _, hl =>
        simp only [Sh.ds] at hl
        obtain ⟨y1, w1, rfl, q1, hl⟩ := hl.cons_inv
        obtain ⟨y2, w2, rfl, q2, hl⟩ := hl.cons_inv
        have er := RpAll.nil_inv hl
        subst er
        refine ⟨_, rfl, a, _, _, _, rfl, rfl, hs, rfl, rfl, _, rfl, iteN (by decide +kernel) ?_⟩
        refine ⟨_, rfl, a, _, _, _, rfl, rfl, hs, rfl, rfl, _, rfl, iteN (by decide +kernel) ?_⟩
        refine ⟨_, rfl, a, _, _, _, rfl, rfl, hs, rfl, rfl, _, rfl, iteN (by decide +kernel) ?_⟩
        refine ⟨_, rfl, g, _, _, _, rfl, rfl, hg, rfl, _, rfl, g, _, _, _, rfl, rfl, hg, rfl, (show 3 ≤ sizeLine by decide), fun p hp => ?_⟩
        refine k _ _ (Sm.new hp) ?_
        simp only [Sh.withP, Sh.d]
        have kt := KT.upd_new (o := .tup [.str "f", y1, y2]) hp
        exact Rp.mk upd_same (.cons (.str _ (by decide +kernel)) (.cons (q1.on kt) (.cons (q2.on kt) .nil)))
/-! ### replacing -/
def MapAt (K : PySem.W.Frag) (H : Hp) (m : Addr) (as : List Sh) : Prop := ∃ kvs : List (Key × V), H m = some (.dK kvs) ∧ ∀ i : Int, match pick as i with
  | some s => ∃ x, valV kvs (Sum.inl i) = some x ∧ Rp K H x s.d
  | none => valV kvs (Sum.inl i) = none
theorem MapAt.keep {H H' : Hp} {m : Addr} {as : List Sh} (h : MapAt K H m as) (s : Sm H H') : MapAt K H' m as := by
  obtain ⟨kvs, e, q⟩ := h
  refine ⟨kvs, s _ _ e, fun i => ?_⟩
  have := q i
  split at this
  · obtain ⟨x, e1, r⟩ := this
    exact ⟨x, e1, r.on (KT.same s)⟩
  · exact this
def spRepl (K : PySem.W.Frag) (n : Nat) : Sp := fun vs H Q _ => ∃ (x : V) (sh : Sh) (m : Addr) (as : List Sh), vs = [x, .ref m] ∧ Rp K H x sh.d ∧ sh.dep ≤ n ∧ sh.dep ≤ 1000 ∧ MapAt K H m as ∧ ∀ (r : V) (H' : Hp), Sm H H' → Rp K H' r (repl as sh).d → Q r H'
theorem dep_pos (s : Sh) : 0 < s.dep := by cases s <;> (simp only [Sh.dep]; omega)
theorem ok_repl (T : Txt K mg A) : ∀ n : Nat, FnOk P w K mg base CX0 (n + 2) A.f_replace_variables A.d_replace_variables ["shape", "mapping"] (spRepl K n)
  | 0 => by
    refine T.F_replace_variables.ok sc_replace_variables (fun vs H Q E h => ?_) (fun cdv Ar outer s H vs Q E hr h => ?_)
    · obtain ⟨x, sh, m, as, rfl, _⟩ := h
      rfl
    · obtain ⟨x, sh, m, as, rfl, _, h0, _⟩ := h
      have := dep_pos sh
      omega
  | n + 1 => by
    have G_direct_parts : FnOk P w K mg base CX0 1 A.f_direct_parts A.d_direct_parts _ _ := ok_parts T
    have G_with_parts : FnOk P w K mg base CX0 1 A.f_with_parts A.d_with_parts _ _ := ok_with T
    have G_replace_variables : FnOk P w K mg base CX0 (n + 2) A.f_replace_variables A.d_replace_variables _ _ := ok_repl T n
    refine T.F_replace_variables.ok sc_replace_variables (fun vs H Q E h => ?_) (fun cdv Ar outer s H vs Q E hr h => ?_)
    · obtain ⟨x, sh, m, as, rfl, _⟩ := h
      rfl
    · obtain ⟨x, sh, m, as, rfl, hx, hd, hd2, hm, k⟩ := h
      refine ⟨_, (pss_cons (ps_if (pt_cmpR op_eq (pe_ix (ixt (K := K) rfl) (pv 0) pe_int (fun _ _ => rfl)) pe_str (nomark _)) (pss_one (ps_ret (pe_dget2 (hu_of hr) (pv 1) (pe_ix (ixt (K := K) rfl) (pv 0) pe_int (fun _ _ => rfl)) (pv 0) ⟨rfl, rfl, rfl, rfl⟩))) pss_nil) (pss_cons (ps_set (i := 2) sc_replace_variables.nd rfl (Or.inl rfl) (pe_callTy call_tuple_of (by rfl) T.n_tuple (by decide +kernel) (pa_cons (pe_lc (own := [("part", 3)]) (g := gName 3) (tt := tYes) rfl sc_replace_variables.nd (pi_tup (pe_call G_direct_parts (hr.mono (by first | decide | omega)) rfl T.g_direct_parts T.F_direct_parts.kp T.b_direct_parts .nil pass0 (pa_cons (pv 0) pa_nil))) (blkOk_by (N := N_replace_variables) (sc := defScope s_replace_variables) (by decide +kernel)) (fun _ _ _ _ _ => (pg_name (i := 3) sc_replace_variables.nd rfl (Or.inl rfl))) (fun _ _ _ _ _ => pts_nil) (fun _ _ _ _ _ => (pe_call G_replace_variables (hr.mono (by first | decide | omega)) rfl T.g_replace_variables T.F_replace_variables.kp T.b_replace_variables .nil pass0 (pa_cons (pv 3) (pa_cons (pv 1) pa_nil))))) pa_nil))) (pss_one (ps_ret (pe_call G_with_parts (hr.mono (by first | decide | omega)) rfl T.g_with_parts T.F_with_parts.kp T.b_with_parts .nil pass0 (pa_cons (pv 0) (pa_cons (pv 2) pa_nil))))))), ?_⟩
      have hx0 := hx
      have tag : ∃ a t ws, x = .ref a ∧ SqT K H a (.str t :: ws) ∧ (sh.isV = false → decide (V.str t = V.str "v") = false) := by
        cases sh with
        | v i => obtain ⟨a, rfl, hs⟩ := inv_v hx; exact ⟨a, _, _, rfl, hs, fun z => nomatch z⟩
        | c i l => obtain ⟨a, _, _, rfl, hs, _⟩ := inv_c hx; exact ⟨a, _, _, rfl, hs, fun _ => by decide +kernel⟩
        | t l => obtain ⟨a, _, _, rfl, hs, _⟩ := inv_t hx; exact ⟨a, _, _, rfl, hs, fun _ => by decide +kernel⟩
        | f y z => obtain ⟨a, _, _, rfl, hs, _⟩ := inv_f hx; exact ⟨a, _, _, rfl, hs, fun _ => by decide +kernel⟩
      cases hv : sh.isV with
      | true =>
        cases sh with
        | v i =>
          obtain ⟨a, rfl, hs⟩ := inv_v hx
          refine ⟨_, rfl, a, _, _, _, rfl, rfl, hs, rfl, rfl, _, rfl, iteY (by decide +kernel) ?_⟩
          obtain ⟨kvs, em, q⟩ := hm
          refine ⟨_, rfl, m, rfl, .inl ⟨kvs, Rd.of em⟩, _, rfl, a, _, _, _, rfl, rfl, hs, rfl, _, rfl, _, DGet.k (k := Sum.inl i) em, ?_⟩
          have qi := q i
          cases e : pick as i with
          | some s0 =>
            rw [e] at qi
            obtain ⟨y, ey, hy⟩ := qi
            rw [ey]
            refine k y H (fun _ _ e => e) ?_
            simp only [repl, e, Option.getD_some]
            exact hy
          | none =>
            rw [e] at qi
            rw [qi]
            refine k _ H (fun _ _ e => e) ?_
            simp only [repl, e, Option.getD_none]
            exact hx0
        | c i l => cases hv
        | t l => cases hv
        | f y z => cases hv
      | false =>
        obtain ⟨a, t, ws, rfl, hs, nt⟩ := tag
        refine ⟨_, rfl, a, _, _, _, rfl, rfl, hs, at0, rfl, _, rfl, iteN (nt hv) ?_⟩
        refine ⟨_, rfl, _, sh, rfl, hx0, fun g ys H1 s1 hg hl => ⟨g, rfl, ⟨_, hg⟩, fun D hD => ?_⟩⟩
        have hlen : ys.length = sh.parts.length := by rw [hl.length, ds_len]
        have hD0 : H D = none := s1.free hD
        refine lc_tup (xs := ys) (fun i H' => Sm H1 H' ∧ ∃ acc : List V, H' D = some (.lst acc) ∧ acc.length = i ∧ RpAll K H' acc (Sh.ds ((repls as sh.parts).take i))) ?_ ?_ ?_ ?_
        · exact ⟨Sm.new hD, [], upd_same, rfl, by simp only [List.take_zero, Sh.ds]; exact .nil⟩
        · rintro i H' _ ⟨s2, _⟩
          exact (KT.same s2).sqt hg
        · rintro i y H' hy ⟨s2, acc, hacc, hla, hra⟩
          have hi : i < sh.parts.length := by
            have := (List.getElem?_eq_some_iff.mp hy).1
            omega
          have ep : sh.parts[i]? = some sh.parts[i] := List.getElem?_eq_getElem hi
          have ed : (Sh.ds sh.parts)[i]? = some (sh.parts[i]).d := by rw [ds_map, List.getElem?_map, ep]; rfl
          obtain ⟨y', ey, ry⟩ := hl.get ed
          rw [hy] at ey
          cases ey
          have hdep := parts_dep (List.getElem_mem hi)
          have s02 : Sm H H' := fun a o e => s2 _ _ (s1 _ _ e)
          refine ⟨rfl, tYes_do ?_⟩
          refine ⟨_, rfl, _, rfl, y, sh.parts[i], m, as, rfl, ry.on (KT.same s2), by omega, by omega, hm.keep s02, fun r H2 s3 hr3 => ?_⟩
          have hD2 : H2 D = some (.lst acc) := s3 _ _ hacc
          have kt2 : KT H2 (upd H2 D (.lst (acc ++ [r]))) := KT.upd_lst (NT.lst hD2)
          have hpl := parts_len sh
          refine ⟨acc, hD2, small_lt (by omega), ?_, acc ++ [r], upd_same, by simp [hla], ?_⟩
          · exact (show Sm H1 H2 from fun a o e => s3 _ _ (s2 _ _ e)).upd hD
          · have e1 : (repls as sh.parts).take (i + 1) = (repls as sh.parts).take i ++ [repl as sh.parts[i]] := by
              rw [repls_map, List.take_add_one, List.getElem?_map, ep]
              rfl
            rw [e1, ds_map, List.map_append, ← ds_map]
            refine RpAll.app ((hra.on (KT.same s3)).on kt2) (.cons (hr3.on kt2) .nil)
        · rintro H2 ⟨s2, acc, hacc, hla, hra⟩
          have hr2 : (repls as sh.parts).take ys.length = repls as sh.parts := by
            rw [List.take_of_length_le]
            rw [repls_map, List.length_map]
            omega
          rw [hr2] at hra
          refine ⟨D, _, rfl, .inl ⟨SqL.of hacc, fun p hp => ?_⟩⟩
          have s02 : Sm H H2 := fun a o e => s2 _ _ (s1 _ _ e)
          have s03 : Sm H (upd H2 p (.tup acc)) := s02.on hp
          refine ⟨_, rfl, _, rfl, _, sh, p, acc, repls as sh.parts, rfl, hx0.on (KT.same s03), .inl (Rd.of upd_same), hra.on (KT.upd_new hp), by rw [repls_map, List.length_map], fun r H3 s3 hr3 => ?_⟩
          refine k r H3 (fun a o e => s3 _ _ (s03 _ _ e)) ?_
          rw [repl_parts as hv]
          exact hr3
end
end K89

set_option Elab.async false
set_option maxRecDepth 100000
set_option linter.all false
set_option maxHeartbeats 4000000
namespace K89
open PySem L2 GD AG
section
variable {P : Program} {w : World} {K : PySem.W.Frag} {mg : Str → Option Value} {base : Heap} {A : Adr}
theorem Sm.refl {H : Hp} : Sm H H := fun _ _ e => e
theorem Sm.trans {H H1 H2 : Hp} (h : Sm H H1) (k : Sm H1 H2) : Sm H H2 := fun a o e => k a o (h a o e)
def rd (rows : List Row) : List PyData := rows.map Row.d
def spCon (K : PySem.W.Frag) (n : Nat) : Sp := fun vs H Q _ => ∃ (x : V) (es : List Ent), vs = [x] ∧ Rp K H x (.tuple (Ent.ds es)) ∧ Ent.oks es ∧ Ent.deps es < n ∧ (Ent.rowss es).length ≤ 1000 ∧
  ∀ (D : Addr) (ys : List V) (H' : Hp), Sm H H' → H D = none → H' D = some (.lst ys) → RpAll K H' ys (rd (Ent.rowss es)) → Q (.ref D) H'
theorem rowss_take {es : List Ent} {i : Nat} {e : Ent} (h : es[i]? = some e) : Ent.rowss (es.take (i + 1)) = Ent.rowss (es.take i) ++ e.rows := by
  rw [List.take_add_one, h, rowss_app]
  simp [Ent.rowss]
theorem rowss_le (es : List Ent) (i : Nat) : (Ent.rowss (es.take i)).length ≤ (Ent.rowss es).length := by
  have e : Ent.rowss es = Ent.rowss (es.take i) ++ Ent.rowss (es.drop i) := by rw [← rowss_app, List.take_append_drop]
  rw [e, List.length_append]
  omega
theorem rd_app (a b : List Row) : rd (a ++ b) = rd a ++ rd b := List.map_append
theorem rd_len (a : List Row) : (rd a).length = a.length := List.length_map _
theorem ok_con (T : Txt K mg A) : ∀ n : Nat, FnOk P w K mg base CX0 (n + 1) A.f_constructor_entries A.d_constructor_entries ["entries"] (spCon K n) := by
  intro n
  induction n with
  | zero =>
    refine T.F_constructor_entries.ok sc_constructor_entries (fun vs H Q E h => ?_) (fun cdv Ar outer s H vs Q E hr h => ?_)
    · obtain ⟨x, es, rfl, _⟩ := h
      rfl
    · obtain ⟨x, es, rfl, _, _, h0, _⟩ := h
      exact absurd h0 (Nat.not_lt_zero _)
  | succ n ih =>
    have G_constructor_entries : FnOk P w K mg base CX0 (n + 1) A.f_constructor_entries A.d_constructor_entries _ _ := ih
    refine T.F_constructor_entries.ok sc_constructor_entries (fun vs H Q E h => ?_) (fun cdv Ar outer s H vs Q E hr h => ?_)
    · obtain ⟨x, es, rfl, _⟩ := h
      rfl
    · obtain ⟨x, es, rfl, hx, hoks, hdep, hfew, k⟩ := h
      refine ⟨_, (pss_cons (ps_set (i := 1) sc_constructor_entries.nd rfl (Or.inl rfl) (pe_lst pa_nil)) (pss_cons (ps_for PassesOwn.never rfl (pi_tup (pv 0)) (pg_name (i := 2) sc_constructor_entries.nd rfl (Or.inl rfl)) (pss_one (ps_if (pt_cmpR op_eq (pe_ix (ixt (K := K) rfl) (pv 2) pe_int (fun _ _ => rfl)) pe_str (nomark _)) (pss_one (ps_expr (pe_bm PySem.F.plainAttrs_list PySem.F.slot_list_append PySem.F.type_list_append mt_append (pv 1) (pa_cons (pv 2) pa_nil)))) (pss_one (ps_if (pt_cmpR op_eq (pe_ix (ixt (K := K) rfl) (pv 2) pe_int (fun _ _ => rfl)) pe_str (nomark _)) (pss_one (ps_set (i := 1) sc_constructor_entries.nd rfl (Or.inl rfl) (pe_op op_cat (pv 1) (pe_call G_constructor_entries (hr.mono (by first | decide | omega)) rfl T.g_constructor_entries T.F_constructor_entries.kp T.b_constructor_entries .nil pass0 (pa_cons (pe_ix (ixt (K := K) rfl) (pv 2) pe_int (fun _ _ => rfl)) pa_nil))))) pss_nil))))) (pss_one (ps_ret (pv 1))))), ?_⟩
      obtain ⟨a, xs, rfl, hs, hxs⟩ := hx.tup_inv
      have hlen : xs.length = es.length := by rw [hxs.length, eds_map, List.length_map]
      refine ⟨Nat.zero_le _, fun F0 hF0 => ?_⟩
      refine ⟨_, rfl, a, rfl, ⟨xs, (KT.upd_new hF0).sqt hs⟩, for_tup (xs := xs) (fun i σ' H' => ∃ (F : Addr) (acc : List V) (v2 : Option V), σ' = [some (.ref a), some (.ref F), v2] ∧ Sm H H' ∧ H F = none ∧ H' F = some (.lst acc) ∧ RpAll K H' acc (rd (Ent.rowss (es.take i)))) ?_ ?_ ?_ ?_⟩
      · exact ⟨F0, [], none, rfl, Sm.new hF0, hF0, upd_same, by simp only [List.take_zero, Ent.rowss, rd, List.map_nil]; exact .nil⟩
      · rintro i σ' H' _ ⟨F, acc, v2, rfl, s1, _⟩
        exact (KT.same s1).sqt hs
      · rintro i y σ' H' hy ⟨F, acc, v2, rfl, s1, hF, hacc, hra⟩
        have hi : i < es.length := by
          have := (List.getElem?_eq_some_iff.mp hy).1
          omega
        have ee : es[i]? = some es[i] := List.getElem?_eq_getElem hi
        have ed : (Ent.ds es)[i]? = some (es[i]).d := by rw [eds_map, List.getElem?_map, ee]; rfl
        obtain ⟨y', ey, ry⟩ := hxs.get ed
        rw [hy] at ey
        cases ey
        have ry1 := ry.on (KT.same s1)
        have hok := oks_mem hoks (List.getElem_mem hi)
        have hdp := deps_memE (List.getElem_mem hi)
        have et := rowss_take ee
        have hla : acc.length = (Ent.rowss (es.take i)).length := by rw [hra.length, rd_len]
        have hle := rowss_le es i
        have hle1 := rowss_le es (i + 1)
        generalize es[i] = e at ry ry1 hok hdp et
        rw [et] at hle1 ⊢
        rw [List.length_append] at hle1
        cases e with
        | con r =>
          obtain ⟨b, y1, p, q, gs, f, rfl, hb, _⟩ := inv_row ry1
          refine ⟨_, rfl, b, _, _, _, rfl, rfl, hb, at0, rfl, _, rfl, iteY (by decide +kernel) ?_⟩
          refine ⟨_, rfl, .inl ⟨rfl, _, SqL.of hacc⟩, _, rfl, F, _, _, rfl, rfl, hacc, small_lt (by omega), ?_⟩
          have kt : KT H' (upd H' F (.lst (acc ++ [.ref b]))) := KT.upd_lst (NT.lst hacc)
          refine ⟨F, _, _, rfl, s1.upd hF, hF, upd_same, ?_⟩
          rw [rd_app]
          exact RpAll.app (hra.on kt) (.cons (ry1.on kt) .nil)
        | mod nm l =>
          obtain ⟨b, g, rfl, hb, hg⟩ := inv_mod ry1
          refine ⟨_, rfl, b, _, _, _, rfl, rfl, hb, at0, rfl, _, rfl, iteN (by decide +kernel) ?_⟩
          refine ⟨_, rfl, b, _, _, _, rfl, rfl, hb, at0, rfl, _, rfl, iteY (by decide +kernel) ?_⟩
          simp only [Ent.rows] at hle1 ⊢
          simp only [Ent.dep] at hdp
          simp only [Ent.ok] at hok
          refine ⟨_, rfl, _, rfl, b, _, _, _, rfl, rfl, hb, at2, .ref g, l, rfl, hg, hok, by omega, by omega, fun D ys H2 s2 hD hys hrys => ?_⟩
          have hys2 := hrys.length
          rw [rd_len] at hys2
          refine ⟨F, D, _, _, rfl, rfl, s2 _ _ hacc, hys, small_le (by omega), fun p hp => ?_⟩
          have s12 : Sm H H2 := s1.trans s2
          refine ⟨p, _, _, rfl, s12.on hp, s12.free hp, upd_same, ?_⟩
          rw [rd_app]
          exact RpAll.app ((hra.on (KT.same s2)).on (KT.upd_new hp)) (hrys.on (KT.upd_new hp))
        | oth g r =>
          obtain ⟨b, ws, rfl, hb⟩ := inv_othE ry1
          simp only [Ent.ok] at hok
          refine ⟨_, rfl, b, _, _, _, rfl, rfl, hb, at0, rfl, _, rfl, iteN (str_ne hok.1) ?_⟩
          refine ⟨_, rfl, b, _, _, _, rfl, rfl, hb, at0, rfl, _, rfl, iteN (str_ne hok.2) ?_⟩
          simp only [Ent.rows, List.append_nil]
          exact ⟨F, acc, _, rfl, s1, hF, hacc, hra⟩
      · rintro σ' H' ⟨F, acc, v2, rfl, s1, hF, hacc, hra⟩
        rw [List.take_of_length_le (by omega)] at hra
        exact ⟨_, rfl, k F acc H' s1 hF hacc hra⟩
def spCof (K : PySem.W.Frag) : Sp := fun vs H Q _ => ∃ (x : V) (s : Int) (es : List Ent), vs = [x, .int s] ∧ Rp K H x (.tuple (Ent.ds es)) ∧ Ent.oks es ∧ Ent.deps es ≤ 3 ∧ (Ent.rowss es).length ≤ 1000 ∧
  ∀ (D : Addr) (ys : List V) (H' : Hp), Sm H H' → H D = none → H' D = some (.lst ys) → RpAll K H' ys (rd (rowsOf (Ent.rowss es) s)) → Q (.ref D) H'
theorem ok_cof (T : Txt K mg A) : FnOk P w K mg base CX0 6 A.f_constructors_of A.d_constructors_of ["entries", "stamp"] (spCof K) := by
  have G_constructor_entries : FnOk P w K mg base CX0 5 A.f_constructor_entries A.d_constructor_entries _ _ := ok_con T 4
  refine T.F_constructors_of.ok sc_constructors_of (fun vs H Q E h => ?_) (fun cdv Ar outer s H vs Q E hr h => ?_)
  · obtain ⟨x, n, es, rfl, _⟩ := h
    rfl
  · obtain ⟨x, n, es, rfl, hx, hoks, hdep, hfew, k⟩ := h
    refine ⟨_, (pss_one (ps_ret (pe_lc (own := [("entry", 2)]) (g := gName 2) rfl sc_constructors_of.nd (pi_list (pe_call G_constructor_entries (hr.mono (by first | decide | omega)) rfl T.g_constructor_entries T.F_constructor_entries.kp T.b_constructor_entries .nil pass0 (pa_cons (pv 0) pa_nil))) (blkOk_by (N := N_constructors_of) (sc := defScope s_constructors_of) (by decide +kernel)) (fun _ _ _ _ _ => (pg_name (i := 2) sc_constructors_of.nd rfl (Or.inl rfl))) (fun _ _ _ _ _ => (pts_one (pt_cmpR op_eq (pe_ix (ixt (K := K) rfl) (pe_ix (ixt (K := K) rfl) (pv 2) pe_int (fun _ _ => rfl)) pe_int (fun _ _ => rfl)) (pv 1) (nomark _)))) (fun _ _ _ _ _ => (pv 2))))), ?_⟩
    refine ⟨_, rfl, x, es, rfl, hx, hoks, by omega, hfew, fun F ys H1 s1 hF hys hrys => ⟨F, rfl, ⟨_, SqL.of hys⟩, fun D hD => ?_⟩⟩
    have nFD : F ≠ D := ne_of_none hys hD
    have hD0 : H D = none := s1.free hD
    refine lc_list (xs := ys) (fun i H' => Sm H1 H' ∧ ∃ acc : List V, H' D = some (.lst acc) ∧ RpAll K H' acc (rd (rowsOf ((Ent.rowss es).take i) n))) ?_ ?_ ?_ ?_
    · exact ⟨Sm.new hD, [], upd_same, by simp only [List.take_zero, rowsOf, List.filter_nil, rd, List.map_nil]; exact .nil⟩
    · rintro i H' _ ⟨s2, _⟩
      exact SqL.of (s2 _ _ hys)
    · rintro i y H' hy ⟨s2, acc, hacc, hra⟩
      have hyl : ys.length = (Ent.rowss es).length := by rw [hrys.length, rd_len]
      have hi : i < (Ent.rowss es).length := by
        have := (List.getElem?_eq_some_iff.mp hy).1
        omega
      have ee : (Ent.rowss es)[i]? = some (Ent.rowss es)[i] := List.getElem?_eq_getElem hi
      have ed : (rd (Ent.rowss es))[i]? = some ((Ent.rowss es)[i]).d := by unfold rd; rw [List.getElem?_map, ee]; rfl
      obtain ⟨y', ey, ry⟩ := hrys.get ed
      rw [hy] at ey
      cases ey
      have ry1 := ry.on (KT.same s2)
      have hal : acc.length ≤ i := by
        rw [hra.length, rd_len]
        exact Nat.le_trans (List.length_filter_le _ _) (by rw [List.length_take]; omega)
      have et : rowsOf ((Ent.rowss es).take (i + 1)) n = rowsOf ((Ent.rowss es).take i) n ++ (if (Ent.rowss es)[i].st = n then [(Ent.rowss es)[i]] else []) := by
        unfold rowsOf
        rw [List.take_add_one, ee, List.filter_append]
        congr 1
        by_cases h : (Ent.rowss es)[i].st = n <;> simp [h]
      rw [et]
      generalize (Ent.rowss es)[i] = r at ry ry1
      obtain ⟨b, y1, p, q, gs, f, rfl, hb, _, hp, _⟩ := inv_row ry1
      refine ⟨rfl, ?_⟩
      refine ⟨_, rfl, b, _, _, _, rfl, rfl, hb, atI_nat (j := 4) rfl, p, _, _, _, rfl, rfl, hp, at1, _, rfl, rfl, _, rfl, ?_⟩
      rw [dec_i]
      by_cases c : r.st = n
      · rw [decide_eq_true c, if_pos c]
        refine iteT (B := _) ?_
        have kt : KT H' (upd H' D (.lst (acc ++ [.ref b]))) := KT.upd_lst (NT.lst hacc)
        refine ⟨_, rfl, acc, hacc, small_lt (by omega), s2.upd hD, _, upd_same, ?_⟩
        rw [rd_app]
        exact RpAll.app (hra.on kt) (.cons (ry1.on kt) .nil)
      · rw [decide_eq_false c, if_neg c, List.append_nil]
        exact iteF (A := _) ⟨s2, acc, hacc, hra⟩
    · rintro H' ⟨s2, acc, hacc, hra⟩
      rw [List.take_of_length_le (by rw [hrys.length, rd_len]; exact Nat.le_refl _)] at hra
      exact k D acc H' (s1.trans s2) hD0 hacc hra
end
end K89

set_option Elab.async false
set_option maxRecDepth 100000
set_option linter.all false
set_option maxHeartbeats 40000000
namespace K89
open PySem L2 GD AG
section
variable {P : Program} {w : World} {K : PySem.W.Frag} {mg : Str → Option Value} {base : Heap} {A : Adr}
/-- the arguments of the three -/
structure Arg (K : PySem.W.Frag) (ar : Int → Nat) (H : Hp) (ex sx : V) (es : List Ent) (st : List Vl) : Prop where
  env : AG.Env ar es st
  ents : Rp K H ex (.tuple (Ent.ds es))
  sto : Rp K H sx (.tuple (Vl.ds st))
theorem Arg.on {ar : Int → Nat} {H H' : Hp} {ex sx : V} {es : List Ent} {st : List Vl} (h : Arg K ar H ex sx es st) (s : Sm H H') : Arg K ar H' ex sx es st := ⟨h.env, h.ents.on (KT.same s), h.sto.on (KT.same s)⟩
def spAgr (K : PySem.W.Frag) (n : Nat) : Sp := fun vs H Q _ => ∃ (ar : Int → Nat) (ex x vx sx : V) (d : Int) (es : List Ent) (st : List Vl) (sh : Sh) (v : Vl), vs = [ex, x, vx, sx, .int d] ∧ d ≤ n ∧ Arg K ar H ex sx es st ∧
  Rp K H x sh.d ∧ sh.fit ar ∧ Rp K H vx v.d ∧ v.oka ∧ ∀ H', Sm H H' → Q (.bl (agr (Ent.rowss es) st d.toNat sh v)) H'
/-- a value of a constructor: name and argument against a row -/
def agrE (rows : List Row) (st : List Vl) (n : Nat) (as : List Sh) (r : Row) : Vl → Bool
  | .con0 _ x => decide (x = r.name) && r.arg.isNone
  | .con1 _ x u => decide (x = r.name) && (match r.arg with
    | none => false
    | some a => agr rows st n (repl as a) u)
  | _ => false
def Vl.isCon : Vl → Bool
  | .con0 _ _ => true
  | .con1 _ _ _ => true
  | _ => false
def spEnt (K : PySem.W.Frag) (n : Nat) : Sp := fun vs H Q _ => ∃ (ar : Int → Nat) (ex rx vx sx : V) (g : Addr) (gs : List V) (d : Int) (es : List Ent) (st : List Vl) (r : Row) (as : List Sh) (v : Vl), vs = [ex, rx, .ref g, vx, sx, .int d] ∧ 0 < d ∧ d ≤ (n : Int) + 1 ∧ Arg K ar H ex sx es st ∧
  Rp K H rx r.d ∧ RowOk ar r ∧ as.length ≤ r.m ∧ SqT K H g gs ∧ RpAll K H gs (Sh.ds as) ∧ Sh.fits ar as ∧ Rp K H vx v.d ∧ v.oka ∧ Vl.isCon v = true ∧ ∀ H', Sm H H' → Q (.bl (agrE (Ent.rowss es) st (d - 1).toNat as r v)) H'
theorem ok_ent (T : Txt K mg A) (n : Nat) (ih : FnOk P w K mg base CX0 (3 * n + 12) A.f_agrees A.d_agrees ["entries", "shape", "value", "store", "depth"] (spAgr K n)) : FnOk P w K mg base CX0 (3 * n + 13) A.f_agrees_with_entry A.d_agrees_with_entry ["entries", "entry", "args", "value", "store", "depth"] (spEnt K n) := by
  have G_agrees : FnOk P w K mg base CX0 (3 * n + 12) A.f_agrees A.d_agrees _ _ := ih
  have G_replace_variables : FnOk P w K mg base CX0 10 A.f_replace_variables A.d_replace_variables _ _ := ok_repl T 8
  refine T.F_agrees_with_entry.ok (k := 3 * n + 12) sc_agrees_with_entry (fun vs H Q E h => ?_) (fun cdv Ar outer s H vs Q E hr h => ?_)
  · obtain ⟨ar, ex, rx, vx, sx, g, gs, d, es, st, r, as, v, rfl, _⟩ := h
    rfl
  · obtain ⟨ar, ex, rx, vx, sx, g, gs, d, es, st, r, as, v, rfl, hd0, hd1, ha, hr1, hro, hm', hg, hgs, hfa, hv, hvo, hvc, k⟩ := h
    refine ⟨_, (pss_cons (ps_if (PW.pt (pw_or (pt_cmpR op_ne (pe_ix (ixt (K := K) rfl) (pv 3) pe_int (fun _ _ => rfl)) (pe_ix (ixt (K := K) rfl) (pv 1) pe_int (fun _ _ => rfl)) (nomark _)) (pw_or1 (pt_cmpR op_ne (pe_cmpR op_isN (pe_ix (ixt (K := K) rfl) (pv 3) pe_int (fun _ _ => rfl)) pe_non (nomark _)) (pe_cmpR op_isN (pe_ix (ixt (K := K) rfl) (pv 1) pe_int (fun _ _ => rfl)) pe_non (nomark _)) (nomark _))))) (pss_one (ps_ret pe_bl)) pss_nil) (pss_cons (ps_if (pt_cmpR op_isN (pe_ix (ixt (K := K) rfl) (pv 3) pe_int (fun _ _ => rfl)) pe_non (nomark _)) (pss_one (ps_ret pe_bl)) pss_nil) (pss_cons (ps_set (i := 6) sc_agrees_with_entry.nd rfl (Or.inl rfl) pe_dnewK) (pss_cons (ps_for PassesOwn.never rfl (pi_range1 rfl T.n_range (pa_cons (pe_callB call_len_seq (by rfl) T.n_len PySem.boot_len (pa_cons (pv 2) pa_nil)) pa_nil)) (pg_name (i := 7) sc_agrees_with_entry.nd rfl (Or.inl rfl)) (pss_one (ps_dput (hu_of hr) (pv 6) (pe_ix (ixt (K := K) rfl) (pe_ix (ixt (K := K) rfl) (pe_ix (ixt (K := K) rfl) (pe_ix (ixt (K := K) rfl) (pv 1) pe_int (fun _ _ => rfl)) pe_int (fun _ _ => rfl)) (pv 7) (fun _ _ => rfl)) pe_int (fun _ _ => rfl)) (pe_ix (ixt (K := K) rfl) (pv 2) (pv 7) (fun _ _ => rfl)) rfl))) (pss_one (ps_ret (pe_call G_agrees (hr.mono (by first | decide | omega)) rfl T.g_agrees T.F_agrees.kp T.b_agrees .nil pass0 (pa_cons (pv 0) (pa_cons (pe_call G_replace_variables (hr.mono (by first | decide | omega)) rfl T.g_replace_variables T.F_replace_variables.kp T.b_replace_variables .nil pass0 (pa_cons (pe_ix (ixt (K := K) rfl) (pv 1) pe_int (fun _ _ => rfl)) (pa_cons (pv 6) pa_nil))) (pa_cons (pe_ix (ixt (K := K) rfl) (pv 3) pe_int (fun _ _ => rfl)) (pa_cons (pv 4) (pa_cons (pe_op op_sub (pv 5) pe_int) pa_nil)))))))))))), ?_⟩
    obtain ⟨b, y, p, q, vs0, f, rfl, hb, hy, hp, hq, hvs⟩ := inv_row hr1
    have no : ∀ {z : Bool}, agrE (Ent.rowss es) st (d - 1).toNat as r v = z → Q (.bl z) H := fun {z} e => by
      have := k H Sm.refl
      rw [e] at this
      exact this
    have hya : (r.arg = none ∧ y = .non) ∨ ∃ a0 yr, r.arg = some a0 ∧ y = .ref yr ∧ Rp K H (.ref yr) a0.d := by
      unfold Row.argD at hy
      cases e : r.arg with
      | none =>
        rw [e] at hy
        exact .inl ⟨rfl, hy.non_inv⟩
      | some a0 =>
        rw [e] at hy
        obtain ⟨yr, rfl⟩ := Sh.ref a0 hy
        exact .inr ⟨a0, yr, rfl, rfl, hy⟩
    cases v with
    | int i => cases hvc
    | tup l => cases hvc
    | ref i => cases hvc
    | oth t l => cases hvc
    | con0 i x =>
      obtain ⟨a, rfl, hs⟩ := inv_con0 hv
      by_cases hx : x = r.name
      · refine ⟨_, rfl, a, _, _, _, rfl, rfl, hs, at2, _, rfl, b, _, _, _, rfl, rfl, hb, at1, rfl, _, rfl, iteN (by rw [dec_s, hx]; simp) ?_⟩
        rcases hya with ⟨e, rfl⟩ | ⟨a0, yr, e, rfl, hyr⟩
        · refine ⟨_, rfl, a, _, _, _, rfl, rfl, hs, at3, rfl, _, rfl, b, _, _, _, rfl, rfl, hb, at3, rfl, rfl, _, rfl, iteNS (A := _) rfl ?_⟩
          refine ⟨_, rfl, a, _, _, _, rfl, rfl, hs, at3, rfl, _, rfl, iteY rfl ?_⟩
          exact no (by simp [agrE, hx, e])
        · refine ⟨_, rfl, a, _, _, _, rfl, rfl, hs, at3, rfl, _, rfl, b, _, _, _, rfl, rfl, hb, at3, rfl, rfl, _, rfl, iteY rfl ?_⟩
          exact no (by simp [agrE, hx, e])
      · refine ⟨_, rfl, a, _, _, _, rfl, rfl, hs, at2, _, rfl, b, _, _, _, rfl, rfl, hb, at1, rfl, _, rfl, iteY (by rw [dec_s]; simp [hx]) ?_⟩
        refine iteT (B := _) ?_
        exact no (by simp [agrE, hx])
    | con1 i x u =>
      obtain ⟨a, vr, rfl, hs, hu⟩ := inv_con1 hv
      by_cases hx : x = r.name
      · refine ⟨_, rfl, a, _, _, _, rfl, rfl, hs, at2, _, rfl, b, _, _, _, rfl, rfl, hb, at1, rfl, _, rfl, iteN (by rw [dec_s, hx]; simp) ?_⟩
        rcases hya with ⟨e, rfl⟩ | ⟨a0, yr, e, rfl, hyr⟩
        · refine ⟨_, rfl, a, _, _, _, rfl, rfl, hs, at3, rfl, _, rfl, b, _, _, _, rfl, rfl, hb, at3, rfl, rfl, _, rfl, iteY rfl ?_⟩
          exact no (by simp [agrE, hx, e])
        · refine ⟨_, rfl, a, _, _, _, rfl, rfl, hs, at3, rfl, _, rfl, b, _, _, _, rfl, rfl, hb, at3, rfl, rfl, _, rfl, iteN rfl ?_⟩
          refine ⟨_, rfl, a, _, _, _, rfl, rfl, hs, at3, rfl, _, rfl, iteN rfl ?_⟩
          obtain ⟨hf0, hd8⟩ := hro.arg a0 e
          refine fun m hm => ?_
          have hgl : gs.length = as.length := by rw [hgs.length, ds_len]
          have hb100 : as.length ≤ 100 := Nat.le_trans hm' (by have := ha.env.arb r.st; rw [hro.m]; exact this)
          refine ⟨_, rfl, g, _, rfl, .inr ((KT.upd_new hm).sqt hg), _, rfl, by omega, by omega, for_range (lo := 0) (n := ((gs.length : Nat) : Int).toNat) (fun j σ' H' => ∃ (v7 : Option V) (kvs : List (Key × V)), σ' = [some ex, some (.ref b), some (.ref g), some (.ref a), some sx, some (.int d), some (.ref m), v7] ∧ Sm H H' ∧ H' m = some (.dK kvs) ∧ kvs.length ≤ j ∧
            ∀ i : Int, match pick (as.take j) i with
              | some s => ∃ x, valV kvs (Sum.inl i) = some x ∧ Rp K H' x s.d
              | none => valV kvs (Sum.inl i) = none) ?_ ?_ ?_⟩
          · exact ⟨none, [], rfl, Sm.new hm, upd_same, Nat.le_refl _, fun i => by rw [List.take_zero, pick_nil]; rfl⟩
          · rintro j σ' H' hj ⟨v7, kvs, rfl, s1, hmk, hkl, hq'⟩
            have hj' : j < as.length := by omega
            have ea : as[j]? = some as[j] := List.getElem?_eq_getElem hj'
            have ed : (Sh.ds as)[j]? = some (as[j]).d := by rw [ds_map, List.getElem?_map, ea]; rfl
            obtain ⟨z, ez, hz⟩ := hgs.get ed
            have ev : (Sh.ds (vars r.m))[j]? = some (Sh.v (j : Int)).d := by rw [ds_map, List.getElem?_map, vars_get (show j < r.m by omega)]; rfl
            obtain ⟨zv, ezv, hzv⟩ := hvs.get ev
            obtain ⟨t, rfl, ht⟩ := inv_v hzv
            have kt := KT.same s1
            have at_j : ∀ {l : List V} {x : V}, l[j]? = some x → atI l (0 + (j : Int)) = some x := fun {l x} e => by
              rw [Int.zero_add]
              exact atI_nat e
            refine ⟨_, rfl, _, rfl, g, _, _, _, rfl, rfl, kt.sqt hg, at_j ez, _, rfl, _, rfl, b, _, _, _, rfl, rfl, kt.sqt hb, atI_nat (j := 4) rfl, p, _, _, _, rfl, rfl, kt.sqt hp, at2, _, rfl, q, _, _, _, rfl, rfl, kt.sqt hq, at_j ezv, t, _, _, _, rfl, rfl, kt.sqt ht, at1, m, _, rfl, DPut.k (k := Sum.inl (j : Int)) hmk (small_lt (by omega)), ?_⟩
            have hm0 : H m = none := hm
            have ktu : KT H' (upd H' m (.dK (putK kvs (Sum.inl (j : Int)) z))) := KT.upd_lst (NT.dk hmk)
            refine ⟨_, _, rfl, s1.upd hm0, upd_same, ?_, fun i => ?_⟩
            · have := length_putK kvs (Sum.inl (j : Int) : Key) z
              omega
            · rw [pick_take ea, valV_put]
              have hi := hq' i
              by_cases e : i = (j : Int)
              · rw [if_pos e, if_pos (by rw [e])]
                exact ⟨z, rfl, (hz.on kt).on ktu⟩
              · rw [if_neg e, if_neg (fun z2 => e (Sum.inl.inj z2))]
                split at hi
                · rename_i s0 es0
                  obtain ⟨x0, e0, r0⟩ := hi
                  exact ⟨x0, e0, r0.on ktu⟩
                · rename_i es0
                  exact hi
          · rintro σ' H' ⟨v7, kvs, rfl, s1, hmk, hkl, hq'⟩
            rw [List.take_of_length_le (by omega)] at hq'
            have kt := KT.same s1
            refine ⟨_, rfl, _, rfl, b, _, _, _, rfl, rfl, kt.sqt hb, at3, _, rfl, .ref yr, a0, m, as, rfl, hyr.on kt, hd8, by omega, ⟨kvs, hmk, hq'⟩, fun r' H2 s2 hr2 => ?_⟩
            have s12 : Sm H H2 := s1.trans s2
            refine ⟨_, rfl, a, _, _, _, rfl, rfl, (KT.same s12).sqt hs, at3, _, rfl, _, rfl, _, _, rfl, rfl, ar, ex, r', .ref vr, sx, d - 1, es, st, repl as a0, u, rfl, by omega, ha.on s12, hr2, repl_fit hfa a0 hf0, hu.on (KT.same s12), by simpa [Vl.oka] using hvo, fun H3 s3 => ?_⟩
            have := k H3 (s12.trans s3)
            have e3 : agrE (Ent.rowss es) st (d - 1).toNat as r (Vl.con1 i x u) = agr (Ent.rowss es) st (d - 1).toNat (repl as a0) u := by simp [agrE, hx, e]
            rw [e3] at this
            exact this
      · refine ⟨_, rfl, a, _, _, _, rfl, rfl, hs, at2, _, rfl, b, _, _, _, rfl, rfl, hb, at1, rfl, _, rfl, iteY (by rw [dec_s]; simp [hx]) ?_⟩
        refine iteT (B := _) ?_
        exact no (by simp [agrE, hx])
def spAwc (K : PySem.W.Frag) (n : Nat) : Sp := fun vs H Q _ => ∃ (ar : Int → Nat) (ex x vx sx : V) (d : Int) (es : List Ent) (st : List Vl) (c : Int) (as : List Sh) (v : Vl), vs = [ex, x, vx, sx, .int d] ∧ 0 < d ∧ d ≤ (n : Int) + 1 ∧ Arg K ar H ex sx es st ∧
  Rp K H x (Sh.c c as).d ∧ (Sh.c c as).fit ar ∧ Rp K H vx v.d ∧ v.oka ∧ ¬ (c = 0 ∧ as = []) ∧ ¬ (c = 1 ∧ as = []) ∧ ¬ (c = 2 ∧ as = []) ∧ c ≠ 3 ∧ ∀ H', Sm H H' → Q (.bl (agr (Ent.rowss es) st d.toNat (Sh.c c as) v)) H'
end
end K89

set_option Elab.async false
set_option maxRecDepth 100000
set_option linter.all false
set_option maxHeartbeats 40000000
namespace K89
open PySem L2 GD AG
section
variable {P : Program} {w : World} {K : PySem.W.Frag} {mg : Str → Option Value} {base : Heap} {A : Adr}
def Vl.idx : Vl → Int
  | .con0 i _ => i
  | .con1 i _ _ => i
  | _ => 0
def agrC (rows : List Row) (st : List Vl) (n : Nat) (as : List Sh) (rs : List Row) (v : Vl) : Bool :=
  if rs = [] then true else if Vl.isCon v = false then false else match rs.find? fun r => decide (r.idx = Vl.idx v) with
    | none => true
    | some r => agrE rows st n as r v
theorem agr_c {rows : List Row} {st : List Vl} {n : Nat} {c : Int} {as : List Sh} {v : Vl} (h0 : ¬ (c = 0 ∧ as = [])) (h1 : ¬ (c = 1 ∧ as = [])) (h2 : ¬ (c = 2 ∧ as = [])) (h3 : c ≠ 3) :
    agr rows st (n + 1) (Sh.c c as) v = agrC rows st n as (rowsOf rows c) v := by
  unfold agr agrC
  simp only [h0, h1, h2, h3, if_false]
  cases rowsOf rows c with
  | nil => simp
  | cons r rs =>
    cases v with
    | con0 i x =>
      rw [if_neg (by simp), if_neg (by simp [Vl.isCon])]
      show (match (r :: rs).find? (fun r => decide (r.idx = i)) with | none => true | some r => decide (x = r.name) && r.arg.isNone) = (match (r :: rs).find? (fun r => decide (r.idx = i)) with | none => true | some r => agrE rows st n as r (.con0 i x))
      cases (r :: rs).find? (fun r => decide (r.idx = i)) <;> rfl
    | con1 i x u =>
      rw [if_neg (by simp), if_neg (by simp [Vl.isCon])]
      show (match (r :: rs).find? (fun r => decide (r.idx = i)) with | none => true | some r => decide (x = r.name) && (match r.arg with | none => false | some a => agr rows st n (repl as a) u)) = (match (r :: rs).find? (fun r => decide (r.idx = i)) with | none => true | some r => agrE rows st n as r (.con1 i x u))
      cases (r :: rs).find? (fun r => decide (r.idx = i)) <;> rfl
    | _ => simp [Vl.isCon]
theorem inv_con {H : Hp} {x : V} (v : Vl) (hc : Vl.isCon v = true) (h : Rp K H x v.d) : ∃ a ws, x = .ref a ∧ SqT K H a (.str "con" :: .int (Vl.idx v) :: ws) := by
  cases v with
  | con0 i n => obtain ⟨a, rfl, hs⟩ := inv_con0 h; exact ⟨a, _, rfl, hs⟩
  | con1 i n u => obtain ⟨a, y, rfl, hs, _⟩ := inv_con1 h; exact ⟨a, _, rfl, hs⟩
  | _ => cases hc
theorem find_at {rs : List Row} {j : Nat} {r : Row} {i : Int} (e : rs[j]? = some r) (hb : ∀ x ∈ rs.take j, x.idx ≠ i) (h : r.idx = i) : rs.find? (fun r => decide (r.idx = i)) = some r := by
  induction rs generalizing j with
  | nil => simp at e
  | cons x rs ih =>
    cases j with
    | zero =>
      simp at e
      subst e
      simp [List.find?, h]
    | succ j =>
      have hx : x.idx ≠ i := hb x (by simp)
      simp only [List.find?, decide_eq_false hx]
      exact ih (by simpa using e) (fun y hy => hb y (by simp [hy]))
theorem find_no {rs : List Row} {i : Int} (hb : ∀ x ∈ rs, x.idx ≠ i) : rs.find? (fun r => decide (r.idx = i)) = none := by
  rw [List.find?_eq_none]
  intro x hx
  simpa using hb x hx
theorem ok_awc (T : Txt K mg A) (n : Nat) (ih : FnOk P w K mg base CX0 (3 * n + 12) A.f_agrees A.d_agrees ["entries", "shape", "value", "store", "depth"] (spAgr K n)) : FnOk P w K mg base CX0 (3 * n + 14) A.f_agrees_with_constructor A.d_agrees_with_constructor ["entries", "shape", "value", "store", "depth"] (spAwc K n) := by
  have G_constructors_of : FnOk P w K mg base CX0 6 A.f_constructors_of A.d_constructors_of _ _ := ok_cof T
  have G_agrees_with_entry : FnOk P w K mg base CX0 (3 * n + 13) A.f_agrees_with_entry A.d_agrees_with_entry _ _ := ok_ent T n ih
  refine T.F_agrees_with_constructor.ok (k := 3 * n + 13) sc_agrees_with_constructor (fun vs H Q E h => ?_) (fun cdv Ar outer s H vs Q E hr h => ?_)
  · obtain ⟨ar, ex, x, vx, sx, d, es, st, c, as, v, rfl, _⟩ := h
    rfl
  · obtain ⟨ar, ex, x, vx, sx, d, es, st, c, as, v, rfl, hd0, hd1, ha, hx, hfit, hv, hvo, n0, n1, n2, n3, k⟩ := h
    refine ⟨_, (pss_cons (ps_set (i := 5) sc_agrees_with_constructor.nd rfl (Or.inl rfl) (pe_call G_constructors_of (hr.mono (by first | decide | omega)) rfl T.g_constructors_of T.F_constructors_of.kp T.b_constructors_of .nil pass0 (pa_cons (pv 0) (pa_cons (pe_ix (ixt (K := K) rfl) (pv 1) pe_int (fun _ _ => rfl)) pa_nil)))) (pss_cons (ps_if (pt_cmpR op_eq (pe_callB call_len_seq (by rfl) T.n_len PySem.boot_len (pa_cons (pv 5) pa_nil)) pe_int (nomark _)) (pss_one (ps_ret pe_bl)) pss_nil) (pss_cons (ps_if (pt_cmpR op_ne (pe_ix (ixt (K := K) rfl) (pv 2) pe_int (fun _ _ => rfl)) pe_str (nomark _)) (pss_one (ps_ret pe_bl)) pss_nil) (pss_cons (ps_for PassesOwn.never rfl (pi_list (pv 5)) (pg_name (i := 6) sc_agrees_with_constructor.nd rfl (Or.inl rfl)) (pss_one (ps_if (pt_cmpR op_eq (pe_ix (ixt (K := K) rfl) (pv 6) pe_int (fun _ _ => rfl)) (pe_ix (ixt (K := K) rfl) (pv 2) pe_int (fun _ _ => rfl)) (nomark _)) (pss_one (ps_ret (pe_call G_agrees_with_entry (hr.mono (by first | decide | omega)) rfl T.g_agrees_with_entry T.F_agrees_with_entry.kp T.b_agrees_with_entry .nil pass0 (pa_cons (pv 0) (pa_cons (pv 6) (pa_cons (pe_ix (ixt (K := K) rfl) (pv 1) pe_int (fun _ _ => rfl)) (pa_cons (pv 2) (pa_cons (pv 3) (pa_cons (pv 4) pa_nil))))))))) pss_nil))) (pss_one (ps_ret pe_bl)))))), ?_⟩
    obtain ⟨a, g, gs, rfl, hs, hg, hgs⟩ := inv_c hx
    have hfit' : as.length = ar c ∧ Sh.fits ar as := by simpa [Sh.fit] using hfit
    have yes : ∀ {z : Bool} {H' : Hp}, Sm H H' → agrC (Ent.rowss es) st (d - 1).toNat as (rowsOf (Ent.rowss es) c) v = z → Q (.bl z) H' := fun {z H'} s e => by
      have := k H' s
      rw [show d.toNat = (d - 1).toNat + 1 by omega, agr_c n0 n1 n2 n3, e] at this
      exact this
    refine ⟨_, rfl, _, rfl, a, _, _, _, rfl, rfl, hs, at1, ex, c, es, rfl, ha.ents, ha.env.oks, ha.env.deps, ha.env.few, fun D ys H1 s1 hD hys hrys => ?_⟩
    have hyl : ys.length = (rowsOf (Ent.rowss es) c).length := by rw [hrys.length, rd_len]
    have hrok : ∀ r ∈ rowsOf (Ent.rowss es) c, RowOk ar r ∧ r.st = c := fun r hr => by
      have h := List.mem_filter.mp hr
      exact ⟨ha.env.rok r h.1, by simpa using h.2⟩
    have hv1 := hv.on (KT.same s1)
    have ha1 := ha.on s1
    have hx1 := hx.on (KT.same s1)
    have hs1 := (KT.same s1).sqt hs
    generalize hrs : rowsOf (Ent.rowss es) c = rs at yes hrys hyl hrok
    refine ⟨_, rfl, D, _, rfl, .inl (SqL.of hys), rfl, _, rfl, ite2 (fun c1 => ?_) (fun c1 => ?_)⟩
    · rw [dec_i, decide_eq_true_iff] at c1
      refine yes s1 ?_
      have : rs = [] := List.length_eq_zero_iff.mp (by omega)
      simp [agrC, this]
    · rw [dec_i, decide_eq_true_iff] at c1
      have hne : rs ≠ [] := fun z => c1 (by rw [hyl, z]; rfl)
      cases hc : Vl.isCon v with
      | false =>
        obtain ⟨b, ws, rfl, hb⟩ := inv_tag v hv1
        have ht : v.tag ≠ "con" := by
          cases v with
          | con0 i x => cases hc
          | con1 i x u => cases hc
          | oth t l => simp only [Vl.oka] at hvo; exact hvo.2.2.1
          | int i => simp only [Vl.tag]; decide +kernel
          | tup l => simp only [Vl.tag]; decide +kernel
          | ref i => simp only [Vl.tag]; decide +kernel
        refine ⟨_, rfl, b, _, _, _, rfl, rfl, hb, at0, rfl, _, rfl, iteY (by rw [str_ne ht]; rfl) ?_⟩
        exact yes s1 (by simp [agrC, hne, hc])
      | true =>
        obtain ⟨b, ws2, rfl, hb⟩ := inv_con v hc hv1
        refine ⟨_, rfl, b, _, _, _, rfl, rfl, hb, at0, rfl, _, rfl, iteN (by simp) ?_⟩
        refine ⟨_, rfl, D, rfl, ⟨_, SqL.of hys⟩, for_list (xs := ys) (fun j σ' H' => ∃ v6 : Option V, σ' = [some ex, some (.ref a), some (.ref b), some sx, some (.int d), some (.ref D), v6] ∧ H' = H1 ∧ ∀ r ∈ rs.take j, r.idx ≠ Vl.idx v) ?_ ?_ ?_ ?_⟩
        · exact ⟨none, rfl, rfl, by simp⟩
        · rintro j σ' H' _ ⟨v6, rfl, rfl, _⟩
          exact SqL.of hys
        · rintro j y σ' H' hy ⟨v6, rfl, rfl, hbef⟩
          have hj : j < rs.length := by
            have := (List.getElem?_eq_some_iff.mp hy).1
            omega
          have er : rs[j]? = some rs[j] := List.getElem?_eq_getElem hj
          have ed : (rd rs)[j]? = some (rs[j]).d := by unfold rd; rw [List.getElem?_map, er]; rfl
          obtain ⟨y', ey, ry⟩ := hrys.get ed
          rw [hy] at ey
          cases ey
          obtain ⟨hro, hst⟩ := hrok _ (List.getElem_mem hj)
          have etk : rs.take (j + 1) = rs.take j ++ [rs[j]] := by rw [List.take_add_one, er]; rfl
          rw [etk]
          generalize rs[j] = r at er ry hro hst
          have ry0 := ry
          obtain ⟨e, y1, p, q, gs2, f, rfl, he, _⟩ := inv_row ry
          refine ⟨_, rfl, e, _, _, _, rfl, rfl, he, atI_nat (j := 5) rfl, _, rfl, b, _, _, _, rfl, rfl, hb, at1, rfl, _, rfl, ?_⟩
          rw [dec_i]
          by_cases hx : r.idx = Vl.idx v
          · rw [decide_eq_true hx]
            refine iteT (B := _) ?_
            refine ⟨_, rfl, _, rfl, _, rfl, a, _, _, _, rfl, rfl, hs1, at2, _, rfl, _, rfl, _, rfl, ar, ex, .ref e, .ref b, sx, g, gs, d, es, st, r, as, v, rfl, hd0, hd1, ha1, ry0, hro, by rw [hro.m, hst]; omega, (KT.same s1).sqt hg, hgs.on (KT.same s1), hfit'.2, hv1, hvo, hc, fun H2 s2 => ?_⟩
            refine yes (s1.trans s2) ?_
            simp [agrC, hne, hc, find_at er hbef hx]
          · rw [decide_eq_false hx]
            refine iteF (A := _) ⟨_, rfl, rfl, fun r' hr' => ?_⟩
            rcases List.mem_append.mp hr' with h | h
            · exact hbef r' h
            · rw [List.mem_singleton.mp h]; exact hx
        · rintro σ' H' ⟨v6, rfl, rfl, hbef⟩
          rw [List.take_of_length_le (by omega)] at hbef
          exact yes s1 (by simp [agrC, hne, hc, find_no hbef])
end
end K89

set_option Elab.async false
set_option maxRecDepth 100000
set_option linter.all false
set_option maxHeartbeats 40000000
namespace K89
open PySem L2 GD AG
section
variable {P : Program} {w : World} {K : PySem.W.Frag} {mg : Str → Option Value} {base : Heap} {A : Adr}
theorem ok_agr (T : Txt K mg A) : ∀ n : Nat, FnOk P w K mg base CX0 (3 * n + 12) A.f_agrees A.d_agrees ["entries", "shape", "value", "store", "depth"] (spAgr K n) := by
  intro n
  induction n with
  | zero =>
    have G_agrees : FnOk P w K mg base CX0 (1 : Nat) A.f_agrees A.d_agrees ["entries", "shape", "value", "store", "depth"] (fun _ _ _ _ => False) := T.F_agrees.ok (k := 0) sc_agrees (fun _ _ _ _ h => h.elim) (fun _ _ _ _ _ _ _ _ _ h => h.elim)
    have G_agrees_with_constructor : FnOk P w K mg base CX0 (1 : Nat) A.f_agrees_with_constructor A.d_agrees_with_constructor ["entries", "shape", "value", "store", "depth"] (fun _ _ _ _ => False) := T.F_agrees_with_constructor.ok (k := 0) sc_agrees_with_constructor (fun _ _ _ _ h => h.elim) (fun _ _ _ _ _ _ _ _ _ h => h.elim)
    refine T.F_agrees.ok (k := 11) sc_agrees (fun vs H Q E h => ?_) (fun cdv Ar outer s H vs Q E hr h => ?_)
    · obtain ⟨ar, ex, x, vx, sx, d, es, st, sh, v, rfl, _⟩ := h
      rfl
    · obtain ⟨ar, ex, x, vx, sx, d, es, st, sh, v, rfl, hd, ha, hx, hfit, hv, hvo, k⟩ := h
      refine ⟨_, (pss_cons (ps_if (pt_cmpR op_le (pv 4) pe_int (nomark _)) (pss_one (ps_ret pe_bl)) pss_nil) (pss_cons (ps_if (pt_cmpR op_eq (pe_ix (ixt (K := K) rfl) (pv 1) pe_int (fun _ _ => rfl)) pe_str (nomark _)) (pss_one (ps_ret pe_bl)) pss_nil) (pss_cons (ps_if (pt_cmpR op_eq (pe_ix (ixt (K := K) rfl) (pv 1) pe_int (fun _ _ => rfl)) pe_str (nomark _)) (pss_one (ps_ret (pe_or (pe_cmpR op_eq (pe_ix (ixt (K := K) rfl) (pv 2) pe_int (fun _ _ => rfl)) pe_str (nomark _)) (pe_one (pe_cmpR op_eq (pe_ix (ixt (K := K) rfl) (pv 2) pe_int (fun _ _ => rfl)) pe_str (nomark _)))))) pss_nil) (pss_cons (ps_if (pt_cmpR op_eq (pe_ix (ixt (K := K) rfl) (pv 1) pe_int (fun _ _ => rfl)) pe_str (nomark _)) (pss_cons (ps_if (PW.pt (pw_or (pt_cmpR op_ne (pe_ix (ixt (K := K) rfl) (pv 2) pe_int (fun _ _ => rfl)) pe_str (nomark _)) (pw_or1 (pt_cmpR op_ne (pe_callB call_len_seq (by rfl) T.n_len PySem.boot_len (pa_cons (pe_ix (ixt (K := K) rfl) (pv 2) pe_int (fun _ _ => rfl)) pa_nil)) (pe_callB call_len_seq (by rfl) T.n_len PySem.boot_len (pa_cons (pe_ix (ixt (K := K) rfl) (pv 1) pe_int (fun _ _ => rfl)) pa_nil)) (nomark _))))) (pss_one (ps_ret pe_bl)) pss_nil) (pss_cons (ps_for PassesOwn.never rfl (RZ.pi_zipA (by rfl) T.n_zip (pa_cons (pe_ix (ixt (K := K) rfl) (pv 1) pe_int (fun _ _ => rfl)) (pa_cons (pe_ix (ixt (K := K) rfl) (pv 2) pe_int (fun _ _ => rfl)) pa_nil))) (pg_tup rfl (pgs_cons (pg_name (i := 5) sc_agrees.nd rfl (Or.inl rfl)) (pgs_cons (pg_name (i := 6) sc_agrees.nd rfl (Or.inl rfl)) pgs_nil))) (pss_one (ps_if (pt_not (pt_val (pe_call G_agrees (hr.mono (by first | decide | omega)) rfl T.g_agrees T.F_agrees.kp T.b_agrees .nil pass0 (pa_cons (pv 0) (pa_cons (pv 5) (pa_cons (pv 6) (pa_cons (pv 3) (pa_cons (pe_op op_sub (pv 4) pe_int) pa_nil)))))) (by intro _; rfl))) (pss_one (ps_ret pe_bl)) pss_nil))) (pss_one (ps_ret pe_bl)))) pss_nil) (pss_cons (ps_if (pt_cmpR (op_eqS hr.units) (pv 1) (pe_glob (v := .ref A.c_INT) rfl T.g_INT rfl) (nomark _)) (pss_one (ps_ret (pe_cmpR op_eq (pe_ix (ixt (K := K) rfl) (pv 2) pe_int (fun _ _ => rfl)) pe_str (nomark _)))) pss_nil) (pss_cons (ps_if (pt_cmpR (op_eqS hr.units) (pv 1) (pe_glob (v := .ref A.c_UNIT) rfl T.g_UNIT rfl) (nomark _)) (pss_one (ps_ret (pe_cmpR (op_eqS hr.units) (pv 2) (pe_tup (pa_cons pe_str (pa_cons (pe_tup pa_nil) pa_nil))) (nomark _)))) pss_nil) (pss_cons (ps_if (pt_cmpR (op_eqS hr.units) (pv 1) (pe_glob (v := .ref A.c_EXN) rfl T.g_EXN rfl) (nomark _)) (pss_one (ps_ret (pe_cmpR op_eq (pe_ix (ixt (K := K) rfl) (pv 2) pe_int (fun _ _ => rfl)) pe_str (nomark _)))) pss_nil) (pss_cons (ps_if (pt_cmpR op_eq (pe_ix (ixt (K := K) rfl) (pv 1) pe_int (fun _ _ => rfl)) pe_int (nomark _)) (pss_cons (ps_if (PW.pt (pw_or (pt_cmpR op_ne (pe_ix (ixt (K := K) rfl) (pv 2) pe_int (fun _ _ => rfl)) pe_str (nomark _)) (pw_or1 (pt_not (pt_chain op_le op_lt pe_int (pe_ix (ixt (K := K) rfl) (pv 2) pe_int (fun _ _ => rfl)) (pe_callB call_len_seq (by rfl) T.n_len PySem.boot_len (pa_cons (pv 3) pa_nil))))))) (pss_one (ps_ret pe_bl)) pss_nil) (pss_one (ps_ret (pe_call G_agrees (hr.mono (by first | decide | omega)) rfl T.g_agrees T.F_agrees.kp T.b_agrees .nil pass0 (pa_cons (pv 0) (pa_cons (pe_ix (ixt (K := K) rfl) (pe_ix (ixt (K := K) rfl) (pv 1) pe_int (fun _ _ => rfl)) pe_int (fun _ _ => rfl)) (pa_cons (pe_ix (ixt (K := K) rfl) (pv 3) (pe_ix (ixt (K := K) rfl) (pv 2) pe_int (fun _ _ => rfl)) (fun _ _ => rfl)) (pa_cons (pv 3) (pa_cons (pe_op op_sub (pv 4) pe_int) pa_nil))))))))) pss_nil) (pss_one (ps_ret (pe_call G_agrees_with_constructor (hr.mono (by first | decide | omega)) rfl T.g_agrees_with_constructor T.F_agrees_with_constructor.kp T.b_agrees_with_constructor .nil pass0 (pa_cons (pv 0) (pa_cons (pv 1) (pa_cons (pv 2) (pa_cons (pv 3) (pa_cons (pv 4) pa_nil)))))))))))))))), ?_⟩
      have h0 : d ≤ 0 := by omega
      refine ⟨_, rfl, _, _, rfl, rfl, _, rfl, iteY (decide_eq_true h0) ?_⟩
      have := k H Sm.refl
      rw [show d.toNat = 0 by omega] at this
      exact this
  | succ n ih =>
    have G_agrees : FnOk P w K mg base CX0 (3 * n + 12) A.f_agrees A.d_agrees _ _ := ih
    have G_agrees_with_constructor : FnOk P w K mg base CX0 (3 * n + 14) A.f_agrees_with_constructor A.d_agrees_with_constructor _ _ := ok_awc T n ih
    refine T.F_agrees.ok (k := 3 * n + 14) sc_agrees (fun vs H Q E h => ?_) (fun cdv Ar outer s H vs Q E hr h => ?_)
    · obtain ⟨ar, ex, x, vx, sx, d, es, st, sh, v, rfl, _⟩ := h
      rfl
    · obtain ⟨ar, ex, x, vx, sx, d, es, st, sh, v, rfl, hd, ha, hx, hfit, hv, hvo, k⟩ := h
      refine ⟨_, (pss_cons (ps_if (pt_cmpR op_le (pv 4) pe_int (nomark _)) (pss_one (ps_ret pe_bl)) pss_nil) (pss_cons (ps_if (pt_cmpR op_eq (pe_ix (ixt (K := K) rfl) (pv 1) pe_int (fun _ _ => rfl)) pe_str (nomark _)) (pss_one (ps_ret pe_bl)) pss_nil) (pss_cons (ps_if (pt_cmpR op_eq (pe_ix (ixt (K := K) rfl) (pv 1) pe_int (fun _ _ => rfl)) pe_str (nomark _)) (pss_one (ps_ret (pe_or (pe_cmpR op_eq (pe_ix (ixt (K := K) rfl) (pv 2) pe_int (fun _ _ => rfl)) pe_str (nomark _)) (pe_one (pe_cmpR op_eq (pe_ix (ixt (K := K) rfl) (pv 2) pe_int (fun _ _ => rfl)) pe_str (nomark _)))))) pss_nil) (pss_cons (ps_if (pt_cmpR op_eq (pe_ix (ixt (K := K) rfl) (pv 1) pe_int (fun _ _ => rfl)) pe_str (nomark _)) (pss_cons (ps_if (PW.pt (pw_or (pt_cmpR op_ne (pe_ix (ixt (K := K) rfl) (pv 2) pe_int (fun _ _ => rfl)) pe_str (nomark _)) (pw_or1 (pt_cmpR op_ne (pe_callB call_len_seq (by rfl) T.n_len PySem.boot_len (pa_cons (pe_ix (ixt (K := K) rfl) (pv 2) pe_int (fun _ _ => rfl)) pa_nil)) (pe_callB call_len_seq (by rfl) T.n_len PySem.boot_len (pa_cons (pe_ix (ixt (K := K) rfl) (pv 1) pe_int (fun _ _ => rfl)) pa_nil)) (nomark _))))) (pss_one (ps_ret pe_bl)) pss_nil) (pss_cons (ps_for PassesOwn.never rfl (RZ.pi_zipA (by rfl) T.n_zip (pa_cons (pe_ix (ixt (K := K) rfl) (pv 1) pe_int (fun _ _ => rfl)) (pa_cons (pe_ix (ixt (K := K) rfl) (pv 2) pe_int (fun _ _ => rfl)) pa_nil))) (pg_tup rfl (pgs_cons (pg_name (i := 5) sc_agrees.nd rfl (Or.inl rfl)) (pgs_cons (pg_name (i := 6) sc_agrees.nd rfl (Or.inl rfl)) pgs_nil))) (pss_one (ps_if (pt_not (pt_val (pe_call G_agrees (hr.mono (by first | decide | omega)) rfl T.g_agrees T.F_agrees.kp T.b_agrees .nil pass0 (pa_cons (pv 0) (pa_cons (pv 5) (pa_cons (pv 6) (pa_cons (pv 3) (pa_cons (pe_op op_sub (pv 4) pe_int) pa_nil)))))) (by intro _; rfl))) (pss_one (ps_ret pe_bl)) pss_nil))) (pss_one (ps_ret pe_bl)))) pss_nil) (pss_cons (ps_if (pt_cmpR (op_eqS hr.units) (pv 1) (pe_glob (v := .ref A.c_INT) rfl T.g_INT rfl) (nomark _)) (pss_one (ps_ret (pe_cmpR op_eq (pe_ix (ixt (K := K) rfl) (pv 2) pe_int (fun _ _ => rfl)) pe_str (nomark _)))) pss_nil) (pss_cons (ps_if (pt_cmpR (op_eqS hr.units) (pv 1) (pe_glob (v := .ref A.c_UNIT) rfl T.g_UNIT rfl) (nomark _)) (pss_one (ps_ret (pe_cmpR (op_eqS hr.units) (pv 2) (pe_tup (pa_cons pe_str (pa_cons (pe_tup pa_nil) pa_nil))) (nomark _)))) pss_nil) (pss_cons (ps_if (pt_cmpR (op_eqS hr.units) (pv 1) (pe_glob (v := .ref A.c_EXN) rfl T.g_EXN rfl) (nomark _)) (pss_one (ps_ret (pe_cmpR op_eq (pe_ix (ixt (K := K) rfl) (pv 2) pe_int (fun _ _ => rfl)) pe_str (nomark _)))) pss_nil) (pss_cons (ps_if (pt_cmpR op_eq (pe_ix (ixt (K := K) rfl) (pv 1) pe_int (fun _ _ => rfl)) pe_int (nomark _)) (pss_cons (ps_if (PW.pt (pw_or (pt_cmpR op_ne (pe_ix (ixt (K := K) rfl) (pv 2) pe_int (fun _ _ => rfl)) pe_str (nomark _)) (pw_or1 (pt_not (pt_chain op_le op_lt pe_int (pe_ix (ixt (K := K) rfl) (pv 2) pe_int (fun _ _ => rfl)) (pe_callB call_len_seq (by rfl) T.n_len PySem.boot_len (pa_cons (pv 3) pa_nil))))))) (pss_one (ps_ret pe_bl)) pss_nil) (pss_one (ps_ret (pe_call G_agrees (hr.mono (by first | decide | omega)) rfl T.g_agrees T.F_agrees.kp T.b_agrees .nil pass0 (pa_cons (pv 0) (pa_cons (pe_ix (ixt (K := K) rfl) (pe_ix (ixt (K := K) rfl) (pv 1) pe_int (fun _ _ => rfl)) pe_int (fun _ _ => rfl)) (pa_cons (pe_ix (ixt (K := K) rfl) (pv 3) (pe_ix (ixt (K := K) rfl) (pv 2) pe_int (fun _ _ => rfl)) (fun _ _ => rfl)) (pa_cons (pv 3) (pa_cons (pe_op op_sub (pv 4) pe_int) pa_nil))))))))) pss_nil) (pss_one (ps_ret (pe_call G_agrees_with_constructor (hr.mono (by first | decide | omega)) rfl T.g_agrees_with_constructor T.F_agrees_with_constructor.kp T.b_agrees_with_constructor .nil pass0 (pa_cons (pv 0) (pa_cons (pv 1) (pa_cons (pv 2) (pa_cons (pv 3) (pa_cons (pv 4) pa_nil)))))))))))))))), ?_⟩
      refine ⟨_, rfl, _, _, rfl, rfl, _, rfl, ite2 (fun c1 => ?_) (fun c1 => ?_)⟩
      · have h0 : d ≤ 0 := of_decide_eq_true c1
        have := k H Sm.refl
        rw [show d.toNat = 0 by omega] at this
        exact this
      · have h0 : ¬ d ≤ 0 := fun z => c1 (decide_eq_true z)
        have hdn : d.toNat = (d - 1).toNat + 1 := by omega
        rw [hdn] at k
        have yes : ∀ {z : Bool} {H' : Hp}, Sm H H' → agr (Ent.rowss es) st ((d - 1).toNat + 1) sh v = z → Q (.bl z) H' := fun {z H'} s e => by
          have := k H' s
          rw [e] at this
          exact this
        obtain ⟨b, ws, rfl, hb⟩ := inv_tag v hv
        cases sh with
        | v i =>
          obtain ⟨a, rfl, hs⟩ := inv_v hx
          refine ⟨_, rfl, a, _, _, _, rfl, rfl, hs, at0, rfl, _, rfl, iteY (by decide +kernel) ?_⟩
          exact yes Sm.refl rfl
        | f p q =>
          obtain ⟨a, y, z, rfl, hs, _⟩ := inv_f hx
          refine ⟨_, rfl, a, _, _, _, rfl, rfl, hs, at0, rfl, _, rfl, iteN (by decide +kernel) ?_⟩
          refine ⟨_, rfl, a, _, _, _, rfl, rfl, hs, at0, rfl, _, rfl, iteY (by decide +kernel) ?_⟩
          refine ⟨_, rfl, b, _, _, _, rfl, rfl, hb, at0, rfl, _, rfl, ?_⟩
          rw [dec_s]
          by_cases c2 : v.tag = "fun"
          · rw [decide_eq_true c2]
            exact iteT (B := _) (yes Sm.refl (by simp [agr, c2]))
          · rw [decide_eq_false c2]
            refine iteF (A := _) ⟨_, rfl, b, _, _, _, rfl, rfl, hb, at0, rfl, ?_⟩
            exact yes Sm.refl (by rw [dec_s]; simp [agr, c2])
        | t ps =>
          obtain ⟨a, g, gs, rfl, hs, hg, hgs⟩ := inv_t hx
          refine ⟨_, rfl, a, _, _, _, rfl, rfl, hs, at0, rfl, _, rfl, iteN (by decide +kernel) ?_⟩
          refine ⟨_, rfl, a, _, _, _, rfl, rfl, hs, at0, rfl, _, rfl, iteN (by decide +kernel) ?_⟩
          refine ⟨_, rfl, a, _, _, _, rfl, rfl, hs, at0, rfl, _, rfl, iteY (by decide +kernel) ?_⟩
          by_cases ht : v.tag = "tuple"
          · have hvt : ∃ l, v = .tup l := by
              cases v with
              | tup l => exact ⟨l, rfl⟩
              | oth t l => simp only [Vl.oka] at hvo; exact absurd ht hvo.2.1
              | int i => exact absurd ht (by simp only [Vl.tag]; decide +kernel)
              | con0 i x => exact absurd ht (by simp only [Vl.tag]; decide +kernel)
              | con1 i x u => exact absurd ht (by simp only [Vl.tag]; decide +kernel)
              | ref i => exact absurd ht (by simp only [Vl.tag]; decide +kernel)
            obtain ⟨l, rfl⟩ := hvt
            obtain ⟨b', h2, hs2, eb, hb', hh, hhs⟩ := inv_tup hv
            cases eb
            have hl1 : gs.length = ps.length := by rw [hgs.length, ds_len]
            have hl2 : hs2.length = l.length := by rw [hhs.length, vds_len]
            refine ⟨_, rfl, b, _, _, _, rfl, rfl, hb', at0, rfl, _, rfl, iteN (by decide +kernel) ?_⟩
            refine ⟨_, rfl, b, _, _, _, rfl, rfl, hb', at1, h2, _, rfl, .inr hh, _, rfl, a, _, _, _, rfl, rfl, hs, at1, g, _, rfl, .inr hg, rfl, _, rfl, ?_⟩
            rw [dec_i]
            by_cases c3 : ((hs2.length : Nat) : Int) = ((gs.length : Nat) : Int)
            · rw [decide_eq_true c3]
              refine iteF (A := _) ?_
              have hlen : gs.length = hs2.length := by omega
              have hfit' : Sh.fits ar ps := by simpa [Sh.fit] using hfit
              have hvo' : Vl.okas l := by simpa [Vl.oka] using hvo
              refine ⟨_, rfl, a, _, _, _, rfl, rfl, hs, at1, _, rfl, b, _, _, _, rfl, rfl, hb', at1, g, h2, gs, hs2, rfl, .inr ⟨hg, hh, RZ.for_zipT hlen (fun j σ' H' => ∃ v5 v6 : Option V, σ' = [some ex, some (.ref a), some (.ref b), some sx, some (.int d), v5, v6] ∧ Sm H H' ∧
                ∀ i, i < j → ∀ x y, ps[i]? = some x → l[i]? = some y → agr (Ent.rowss es) st (d - 1).toNat x y = true) ?_ ?_ ?_ ?_⟩⟩
              · exact ⟨none, none, rfl, Sm.refl, fun i hi => absurd hi (Nat.not_lt_zero _)⟩
              · rintro j σ' H' ⟨v5, v6, rfl, s1, _⟩
                exact ⟨(KT.same s1).sqt hg, (KT.same s1).sqt hh⟩
              · rintro j y z T' σ' H' ey ez ⟨v5, v6, rfl, s1, hbef⟩ hT'
                have hj1 : j < ps.length := by have := (List.getElem?_eq_some_iff.mp ey).1; omega
                have hj2 : j < l.length := by have := (List.getElem?_eq_some_iff.mp ez).1; omega
                have ep : ps[j]? = some ps[j] := List.getElem?_eq_getElem hj1
                have el : l[j]? = some l[j] := List.getElem?_eq_getElem hj2
                obtain ⟨y', ey', ry⟩ := hgs.get (show (Sh.ds ps)[j]? = some (ps[j]).d by rw [ds_map, List.getElem?_map, ep]; rfl)
                obtain ⟨z', ez', rz⟩ := hhs.get (show (Vl.ds l)[j]? = some (l[j]).d by rw [vds_map, List.getElem?_map, el]; rfl)
                rw [ey] at ey'
                rw [ez] at ez'
                cases ey'
                cases ez'
                have s2 : Sm H (upd H' T' (.tup [y, z])) := s1.on hT'
                have kt := KT.same s2
                refine ⟨T', [y, z], rfl, .inl (Rd.of upd_same), rfl, y, [z], rfl, z, [], rfl, rfl, ?_⟩
                refine ⟨_, rfl, _, rfl, _, rfl, _, rfl, _, rfl, _, _, rfl, rfl, ar, ex, y, z, sx, d - 1, es, st, ps[j], l[j], rfl, by omega, ha.on s2, ry.on kt, fits_mem hfit' (List.getElem_mem hj1), rz.on kt, okas_mem hvo' (List.getElem_mem hj2), fun H3 s3 => ⟨_, rfl, ?_⟩⟩
                cases ea : agr (Ent.rowss es) st (d - 1).toNat ps[j] l[j] with
                | false =>
                  refine iteT (B := _) ?_
                  refine yes (s2.trans s3) ?_
                  simp only [agr]
                  exact zipAll_bad ep el ea
                | true =>
                  refine iteF (A := _) ⟨_, _, rfl, s2.trans s3, fun i hi x' y' e1 e2 => ?_⟩
                  rcases Nat.lt_succ_iff_lt_or_eq.mp hi with h | h
                  · exact hbef i h x' y' e1 e2
                  · subst h
                    rw [ep] at e1
                    rw [el] at e2
                    cases e1
                    cases e2
                    exact ea
              · rintro σ' H' ⟨v5, v6, rfl, s1, hbef⟩
                refine yes s1 ?_
                have : zipAll (agr (Ent.rowss es) st (d - 1).toNat) ps l = true := zipAll_ok (by omega) fun i x y e1 e2 => hbef i (by have := (List.getElem?_eq_some_iff.mp e1).1; omega) x y e1 e2
                simp only [agr]
                exact this
            · rw [decide_eq_false c3]
              refine iteT (B := _) ?_
              have : zipAll (agr (Ent.rowss es) st (d - 1).toNat) ps l = false := zipAll_len (by omega)
              exact yes Sm.refl (by simp only [agr]; exact this)
          · refine ⟨_, rfl, b, _, _, _, rfl, rfl, hb, at0, rfl, _, rfl, iteY (by rw [str_ne ht]; rfl) ?_⟩
            refine iteT (B := _) ?_
            refine yes Sm.refl ?_
            cases v <;> first | rfl | exact absurd rfl ht
        | c c as =>
          have hx0 := hx
          obtain ⟨a, g, gs, rfl, hs, hg, hgs⟩ := inv_c hx
          have hfit' : as.length = ar c ∧ Sh.fits ar as := by simpa [Sh.fit] using hfit
          refine ⟨_, rfl, a, _, _, _, rfl, rfl, hs, at0, rfl, _, rfl, iteN (by decide +kernel) ?_⟩
          refine ⟨_, rfl, a, _, _, _, rfl, rfl, hs, at0, rfl, _, rfl, iteN (by decide +kernel) ?_⟩
          refine ⟨_, rfl, a, _, _, _, rfl, rfl, hs, at0, rfl, _, rfl, iteN (by decide +kernel) ?_⟩
          -- int
          refine ⟨_, rfl, (Sh.c c as).d, .tuple [.str "c", .int 0, .tuple []], hx0, T.y_INT H, by decide +kernel, _, rfl, ?_⟩
          rw [eqv_small]
          by_cases n0 : c = 0 ∧ as = []
          · rw [decide_eq_true n0]
            refine iteT (B := _) ⟨_, rfl, b, _, _, _, rfl, rfl, hb, at0, rfl, ?_⟩
            exact yes Sm.refl (by rw [dec_s]; simp [agr, n0])
          rw [decide_eq_false n0]
          refine iteF (A := _) ?_
          -- unit
          refine ⟨_, rfl, (Sh.c c as).d, .tuple [.str "c", .int 1, .tuple []], hx0, T.y_UNIT H, by decide +kernel, _, rfl, ?_⟩
          rw [eqv_small]
          by_cases n1 : c = 1 ∧ as = []
          · rw [decide_eq_true n1]
            refine iteT (B := _) ⟨_, rfl, Nat.zero_le _, fun p hp => ⟨(show 2 ≤ sizeLine by decide), fun q hq => ?_⟩⟩
            have s1 : Sm H (upd (upd H p (.tup [])) q (.tup [.str "tuple", .ref p])) := (Sm.new hp).on hq
            refine ⟨v.d, .tuple [.str "tuple", .tuple []], hv.on (KT.same s1), Rp.mk upd_same (.cons (.str _ (by decide +kernel)) (.cons (Rp.mk (xs := []) (by rw [upd_ne (ne_of_none upd_same hq), upd_same]) .nil) .nil)), by decide +kernel, ?_⟩
            rw [eqv_unit v hvo.ok]
            refine yes s1 ?_
            obtain ⟨rfl, rfl⟩ := n1
            simp only [agr]
            rw [if_neg (by decide), if_pos (by decide)]
            cases v with
            | tup l => cases l <;> rfl
            | _ => rfl
          rw [decide_eq_false n1]
          refine iteF (A := _) ?_
          -- exn
          refine ⟨_, rfl, (Sh.c c as).d, .tuple [.str "c", .int 2, .tuple []], hx0, T.y_EXN H, by decide +kernel, _, rfl, ?_⟩
          rw [eqv_small]
          by_cases n2 : c = 2 ∧ as = []
          · rw [decide_eq_true n2]
            refine iteT (B := _) ⟨_, rfl, b, _, _, _, rfl, rfl, hb, at0, rfl, ?_⟩
            refine yes Sm.refl ?_
            rw [dec_s]
            obtain ⟨rfl, rfl⟩ := n2
            simp only [agr]
            rw [if_neg (by decide), if_neg (by decide), if_pos (by decide)]
          rw [decide_eq_false n2]
          refine iteF (A := _) ?_
          -- ref
          refine ⟨_, rfl, a, _, _, _, rfl, rfl, hs, at1, rfl, _, rfl, ?_⟩
          rw [dec_i]
          by_cases n3 : c = 3
          · rw [decide_eq_true n3]
            refine iteT (B := _) ?_
            subst n3
            have h1 : as.length = 1 := hfit'.1.trans ha.env.ar3
            match as, h1 with
            | [a0], _ =>
              by_cases ht : v.tag = "ref"
              · have hvt : ∃ i, v = .ref i := by
                  cases v with
                  | ref i => exact ⟨i, rfl⟩
                  | oth t l => simp only [Vl.oka] at hvo; exact absurd ht hvo.2.2.2
                  | int i => exact absurd ht (by simp only [Vl.tag]; decide +kernel)
                  | con0 i x => exact absurd ht (by simp only [Vl.tag]; decide +kernel)
                  | con1 i x u => exact absurd ht (by simp only [Vl.tag]; decide +kernel)
                  | tup i => exact absurd ht (by simp only [Vl.tag]; decide +kernel)
                obtain ⟨i, rfl⟩ := hvt
                obtain ⟨b', eb, hb'⟩ := inv_ref hv
                cases eb
                obtain ⟨so, ss, rfl, hso, hss⟩ := ha.sto.tup_inv
                have hsl : ss.length = st.length := by rw [hss.length, vds_len]
                have agr3 : ∀ m, agr (Ent.rowss es) st (m + 1) (Sh.c 3 [a0]) (.ref i) = (match (if 0 ≤ i then st[i.toNat]? else none) with
                  | some u => agr (Ent.rowss es) st m a0 u
                  | none => false) := fun m => by
                  simp only [agr]
                  rw [if_neg (fun z => absurd z.1 (by decide)), if_neg (fun z => absurd z.1 (by decide)), if_neg (fun z => absurd z.1 (by decide)), if_pos trivial]
                  try rfl
                refine ⟨_, rfl, b, _, _, _, rfl, rfl, hb', at0, rfl, _, rfl, iteN (by decide +kernel) ?_⟩
                refine ⟨_, rfl, b, _, _, _, rfl, rfl, hb', at1, _, _, rfl, rfl, _, rfl, ?_⟩
                by_cases hi0 : 0 ≤ i
                · rw [decide_eq_true hi0]
                  refine iteT (B := _) ⟨_, rfl, so, _, rfl, .inr hso, _, _, rfl, rfl, _, rfl, ?_⟩
                  by_cases hi1 : i < ((ss.length : Nat) : Int)
                  · rw [decide_eq_true hi1]
                    refine iteF (A := _) ?_
                    have hin : i.toNat < st.length := by omega
                    have eu : st[i.toNat]? = some st[i.toNat] := List.getElem?_eq_getElem hin
                    obtain ⟨u, eu', ru⟩ := hss.get (show (Vl.ds st)[i.toNat]? = some (st[i.toNat]).d by rw [vds_map, List.getElem?_map, eu]; rfl)
                    have hgs' := hgs
                    simp only [Sh.ds] at hgs'
                    obtain ⟨y0, ws0, rfl, ry0, _⟩ := hgs'.cons_inv
                    have ati : atI ss i = some u := by
                      have := atI_nat (xs := ss) eu'
                      rwa [Int.toNat_of_nonneg hi0] at this
                    refine ⟨_, rfl, _, rfl, a, _, _, _, rfl, rfl, hs, at2, g, _, _, _, rfl, rfl, hg, at0, _, rfl, _, rfl, b, _, _, _, rfl, rfl, hb', at1, so, _, _, _, rfl, rfl, hso, ati, _, rfl, _, rfl, _, _, rfl, rfl, ar, ex, y0, u, .ref so, d - 1, es, st, a0, st[i.toNat], rfl, by omega, ha, ry0, fits_mem hfit'.2 (by simp), ru, okas_mem ha.env.stok (List.getElem_mem hin), fun H3 s3 => ?_⟩
                    refine yes s3 ?_
                    rw [agr3, if_pos hi0, eu]
                  · rw [decide_eq_false hi1]
                    refine iteT (B := _) ?_
                    refine yes Sm.refl ?_
                    rw [agr3, if_pos hi0, List.getElem?_eq_none (by omega)]
                · rw [decide_eq_false hi0]
                  refine iteF (A := _) ?_
                  refine ⟨_, rfl, ?_⟩
                  refine iteT (B := _) ?_
                  refine yes Sm.refl ?_
                  rw [agr3, if_neg hi0]
              · refine ⟨_, rfl, b, _, _, _, rfl, rfl, hb, at0, rfl, _, rfl, iteY (by rw [str_ne ht]; rfl) ?_⟩
                refine iteT (B := _) ?_
                refine yes Sm.refl ?_
                simp only [agr]
                rw [if_neg (fun z => absurd z.1 (by decide)), if_neg (fun z => absurd z.1 (by decide)), if_neg (fun z => absurd z.1 (by decide)), if_pos trivial]
                cases v <;> first | rfl | exact absurd rfl ht
          · rw [decide_eq_false n3]
            refine iteF (A := _) ?_
            exact ⟨_, rfl, _, rfl, _, rfl, _, rfl, _, rfl, ar, ex, .ref a, .ref b, sx, d, es, st, c, as, v, rfl, by omega, by omega, ha, hx0, hfit, hv, hvo, n0, n1, n2, n3, fun H' s' => yes s' (by rw [hdn])⟩
end
end K89

set_option Elab.async false
set_option maxRecDepth 100000
set_option linter.all false
set_option maxHeartbeats 4000000
/-! levels as drawn: rows with their entries and fields; agreement of records -/
namespace LV
open PySem L2 GD AG
theorem strOk_app {x y : Str} (hx : PyData.strOk x = true) (hy : PyData.strOk y = true) : PyData.strOk (x ++ y) = true := by
  unfold PyData.strOk at *
  show (x.cps ++ y.cps).all _ = true
  rw [Array.all_append, hx, hy]
  rfl
inductive Rw
  | val (n : Str) (k : Nat) | exn (n : Str) (a : Bool) (i : Int) | fn (n : Str) | mod (n : Str) (rs : List Rw) | shp
inductive Fv
  | lf (v : Vl) | exn (i : Int) (n : Str) | rcd (fs : List (Str × Fv))
mutual
def Fv.d : Fv → PyData
  | .lf v => v.d
  | .exn i n => .tuple [.str "exn", .int i, .str n]
  | .rcd fs => .tuple [.str "record", .tuple (Fv.ds fs)]
def Fv.ds : List (Str × Fv) → List PyData
  | [] => []
  | (l, f) :: r => .tuple [.str l, f.d] :: Fv.ds r
end
def fld (p : Str × Fv) : PyData := .tuple [.str p.1, p.2.d]
theorem fds_map : ∀ l : List (Str × Fv), Fv.ds l = l.map fld
  | [] => by simp [Fv.ds]
  | (l, f) :: r => by simp [Fv.ds, fds_map r, fld]
theorem fds_len (l : List (Str × Fv)) : (Fv.ds l).length = l.length := by rw [fds_map, List.length_map]
def Fv.vl : Fv → Vl
  | .lf v => v
  | .exn i n => .oth "exn" [.int i, .str n]
  | .rcd fs => .oth "record" [.tuple (Fv.ds fs)]
theorem Fv.vl_d : ∀ f : Fv, f.vl.d = f.d
  | .lf v => by simp [Fv.vl, Fv.d]
  | .exn i n => by simp [Fv.vl, Fv.d, Vl.d]
  | .rcd fs => by simp [Fv.vl, Fv.d, Vl.d]
def shpOf : Nat → Sh
  | 0 => .c 0 []
  | 1 => .c 1 []
  | 2 => .f (.c 0 []) (.c 0 [])
  | _ => .c 5 [.v 0]
def funV : Vl := .oth "fun" [.str "x", .tuple [.str "var", .str "x"], .none]
def funM : Vl := .oth "fun" [.str "mod X", .tuple [.str "var", .str "mod X"], .none]
def packV : Vl := .oth "packet" [.int 0, .str "Match", .none]
def valOf : Nat → Vl
  | 0 => .int 7
  | 1 => .tup []
  | 2 => funV
  | _ => .con0 0 "Nil"
mutual
def Rw.d : Rw → PyData
  | .val n k => .tuple [.str "val", .str n, .tuple [.int (if k = 3 then 1 else 0), (shpOf k).d]]
  | .exn n a _ => .tuple [.str "exn", .str n, if a then (Sh.c 0 []).d else .none]
  | .fn n => .tuple [.str "functor", .str n, .tuple [.tuple [], .tuple []], .tuple [], .tuple []]
  | .mod n rs => .tuple [.str "module", .str n, .tuple (Rw.ds rs)]
  | .shp => .tuple [.str "shape", .str "t", .int 0, (Sh.c 0 []).d]
def Rw.ds : List Rw → List PyData
  | [] => []
  | r :: rs => r.d :: Rw.ds rs
end
theorem rds_map : ∀ l : List Rw, Rw.ds l = l.map Rw.d
  | [] => by simp [Rw.ds]
  | a :: r => by simp [Rw.ds, rds_map r]
theorem rds_len (l : List Rw) : (Rw.ds l).length = l.length := by rw [rds_map, List.length_map]
def Rw.tag : Rw → Str
  | .val _ _ => "val"
  | .exn _ _ _ => "exn"
  | .fn _ => "functor"
  | .mod _ _ => "module"
  | .shp => "shape"
def Rw.name : Rw → Str
  | .val n _ => n
  | .exn n _ _ => n
  | .fn n => n
  | .mod n _ => n
  | .shp => "t"
def Rw.label : Rw → Str
  | .val n _ => ("val " : Str) ++ n
  | .exn n _ _ => ("exn " : Str) ++ n
  | .fn n => ("fun " : Str) ++ n
  | .mod n _ => ("mod " : Str) ++ n
  | .shp => ""
def Rw.isF : Rw → Bool
  | .shp => false
  | _ => true
mutual
def Rw.fv : Rw → Fv
  | .val _ k => .lf (valOf k)
  | .exn n _ i => .exn i n
  | .fn _ => .lf funM
  | .mod _ rs => .rcd (Rw.fls rs)
  | .shp => .lf (.int 0)
def Rw.fls : List Rw → List (Str × Fv)
  | [] => []
  | r :: rs => if r.isF then (r.label, r.fv) :: Rw.fls rs else Rw.fls rs
end
def due (rs : List Rw) : List Rw := rs.filter Rw.isF
theorem fls_due : ∀ rs : List Rw, Rw.fls rs = (due rs).map fun r => (r.label, r.fv)
  | [] => by simp [Rw.fls, due]
  | r :: rs => by
    simp only [Rw.fls, due, List.filter_cons]
    cases h : r.isF with
    | true => simp [fls_due rs, due]
    | false => simp [fls_due rs, due]
/-! ### agreement -/
def brows : List Row := Ent.rowss basisE
def ft (f : Fv) : Str := f.vl.tag
mutual
def Rw.agr (d : Nat) : Rw → Fv → Bool
  | .val _ k, f => AG.agr brows [] d (shpOf k) f.vl
  | .exn n _ _, f => (match f with
    | .exn _ m => decide (m = n)
    | _ => false)
  | .fn _, f => decide (ft f = "fun")
  | .mod _ rs, f => (match f with
    | .rcd fs => Rw.goA d rs fs
    | _ => false)
  | .shp, _ => false
def Rw.goA (d : Nat) : List Rw → List (Str × Fv) → Bool
  | [], fs => fs.isEmpty
  | r :: rs, fs => if r.isF then (match fs with
      | [] => false
      | (l, f) :: q => decide (l = r.label) && r.agr d f && Rw.goA d rs q)
    else Rw.goA d rs fs
end
def lvA (d : Nat) (rs : List Rw) (f : Fv) : Bool := match f with
  | .rcd fs => Rw.goA d rs fs
  | _ => false
/-- in turn -/
def zipF (d : Nat) : List Rw → List (Str × Fv) → Bool
  | [], [] => true
  | r :: rs, (_, f) :: q => r.agr d f && zipF d rs q
  | _, _ => false
theorem goA_eq (d : Nat) : ∀ (rs : List Rw) (fs : List (Str × Fv)), Rw.goA d rs fs = (decide ((due rs).map Rw.label = fs.map Prod.fst) && zipF d (due rs) fs)
  | [], [] => by simp [Rw.goA, due, zipF]
  | [], p :: q => by simp [Rw.goA, due, zipF]
  | r :: rs, fs => by
    have hd : due (r :: rs) = if r.isF then r :: due rs else due rs := by simp only [due, List.filter_cons]
    rw [hd]
    simp only [Rw.goA]
    cases h : r.isF with
    | false => exact goA_eq d rs fs
    | true =>
      rw [if_pos rfl]
      cases fs with
      | nil => simp [zipF]
      | cons p q =>
        obtain ⟨l, f⟩ := p
        simp only [if_true]
        rw [goA_eq d rs q]
        simp only [List.map_cons, zipF]
        by_cases e : l = r.label
        · subst e
          by_cases e2 : (List.map Rw.label (due rs)) = List.map Prod.fst q
          · simp [e2]
          · simp [e2]
        · have e' : ¬ (r.label = l) := fun z => e z.symm
          simp [e, e']
theorem zipF_at {d : Nat} : ∀ {rs : List Rw} {fs : List (Str × Fv)} {i : Nat} {r : Rw} {p : Str × Fv}, zipF d rs fs = true → rs[i]? = some r → fs[i]? = some p → r.agr d p.2 = true
  | r :: rs, (_, f) :: q, 0, _, _, h, e, e2 => by
    simp only [zipF, Bool.and_eq_true] at h
    simp at e e2
    subst e e2
    exact h.1
  | r :: rs, (_, f) :: q, i + 1, _, _, h, e, e2 => by
    simp only [zipF, Bool.and_eq_true] at h
    exact zipF_at h.2 (by simpa using e) (by simpa using e2)
  | [], _, i, _, _, _, e, _ => by simp at e
  | _ :: _, [], _, _, _, _, _, e => by simp at e
/-- three reasons -/
theorem bad_labels {d : Nat} {rs : List Rw} {fs : List (Str × Fv)} (h : (due rs).map Rw.label ≠ fs.map Prod.fst) : Rw.goA d rs fs = false := by
  rw [goA_eq, decide_eq_false h, Bool.false_and]
theorem bad_at {d : Nat} {rs : List Rw} {fs : List (Str × Fv)} {i : Nat} {r : Rw} {p : Str × Fv} (e : (due rs)[i]? = some r) (e2 : fs[i]? = some p) (h : r.agr d p.2 = false) : Rw.goA d rs fs = false := by
  rw [goA_eq]
  cases hz : zipF d (due rs) fs with
  | false => simp
  | true => rw [zipF_at hz e e2] at h; cases h
/-! ### rows that are drawn -/
def allN : List Str := ["+", "a", "b2", "c", "A", "B", "C", "D", "M", "N", "O", "P", "F", "G", "H", "I"]
def tagN (t : Nat) : List Str := match t with
  | 0 => ["+", "a", "b2", "c"]
  | 1 => ["A", "B", "C", "D"]
  | 2 => ["M", "N", "O", "P"]
  | _ => ["F", "G", "H", "I"]
def tags : List Str := ["val", "exn", "module", "functor"]
def fil (t : Str) (rs : List Rw) : List Rw := rs.filter fun r => decide (r.tag = t)
def ordF (rs : List Rw) : List Rw := (tags.map fun t => fil t rs).flatten
/-- what sorting asks -/
def Srt (rs : List Rw) : Prop := (∀ t ∈ tags, ((fil t rs).map Rw.name).Pairwise fun a b => KSt.ltT a b = true) ∧ ordF rs = due rs ∧ ((due rs).map Rw.label).Nodup
mutual
def Rw.wf : Rw → Prop
  | .val n k => n ∈ allN ∧ k < 4
  | .exn n _ _ => n ∈ allN
  | .fn n => n ∈ allN
  | .mod n rs => n ∈ allN ∧ Rw.wfs rs ∧ Srt rs ∧ rs.length ≤ 100
  | .shp => True
def Rw.wfs : List Rw → Prop
  | [] => True
  | r :: rs => r.wf ∧ Rw.wfs rs
end
theorem wfs_mem : ∀ {rs : List Rw} {r : Rw}, Rw.wfs rs → r ∈ rs → r.wf
  | q :: rs, r, h, m => by
    simp only [Rw.wfs] at h
    rcases List.mem_cons.mp m with e | m
    · rw [e]; exact h.1
    · exact wfs_mem h.2 m
theorem wfs_all : ∀ {rs : List Rw}, (∀ r ∈ rs, r.wf) → Rw.wfs rs
  | [], _ => by simp [Rw.wfs]
  | r :: rs, h => by
    simp only [Rw.wfs]
    exact ⟨h r List.mem_cons_self, wfs_all fun q hq => h q (List.mem_cons_of_mem _ hq)⟩
theorem wfs_app {a b : List Rw} (h : Rw.wfs a) (k : Rw.wfs b) : Rw.wfs (a ++ b) := wfs_all fun r hr => by
  rcases List.mem_append.mp hr with m | m
  · exact wfs_mem h m
  · exact wfs_mem k m
mutual
def Rw.dep : Rw → Nat
  | .mod _ rs => 1 + Rw.deps rs
  | _ => 0
def Rw.deps : List Rw → Nat
  | [] => 0
  | r :: rs => Nat.max r.dep (Rw.deps rs)
end
theorem rdeps_mem : ∀ {l : List Rw} {a : Rw}, a ∈ l → a.dep ≤ Rw.deps l
  | b :: r, a, h => by
    simp only [Rw.deps]
    rcases List.mem_cons.mp h with h | h
    · subst h; exact Nat.le_max_left _ _
    · exact Nat.le_trans (rdeps_mem h) (Nat.le_max_right _ _)
theorem rdeps_le {n : Nat} : ∀ {l : List Rw}, (∀ a ∈ l, a.dep ≤ n) → Rw.deps l ≤ n
  | [], _ => Nat.zero_le _
  | b :: r, h => by
    simp only [Rw.deps]
    exact Nat.max_le.mpr ⟨h b List.mem_cons_self, rdeps_le fun a ha => h a (List.mem_cons_of_mem _ ha)⟩
/-! ### as entries for agreement -/
mutual
def Rw.e : Rw → Ent
  | .val n k => .oth "val" [.str n, .tuple [.int (if k = 3 then 1 else 0), (shpOf k).d]]
  | .exn n a _ => .oth "exn" [.str n, if a then (Sh.c 0 []).d else .none]
  | .fn n => .oth "functor" [.str n, .tuple [.tuple [], .tuple []], .tuple [], .tuple []]
  | .mod n rs => .mod n (Rw.es rs)
  | .shp => .oth "shape" [.str "t", .int 0, (Sh.c 0 []).d]
def Rw.es : List Rw → List Ent
  | [] => []
  | r :: rs => r.e :: Rw.es rs
end
mutual
theorem Rw.e_d : ∀ r : Rw, r.e.d = r.d
  | .val n k => by simp [Rw.e, Ent.d, Rw.d]
  | .exn n a i => by simp [Rw.e, Ent.d, Rw.d]
  | .fn n => by simp [Rw.e, Ent.d, Rw.d]
  | .mod n rs => by simp [Rw.e, Ent.d, Rw.d, Rw.es_d rs]
  | .shp => by simp [Rw.e, Ent.d, Rw.d]
theorem Rw.es_d : ∀ rs : List Rw, Ent.ds (Rw.es rs) = Rw.ds rs
  | [] => by simp [Rw.es, Ent.ds, Rw.ds]
  | r :: rs => by simp [Rw.es, Ent.ds, Rw.ds, Rw.e_d r, Rw.es_d rs]
end
mutual
theorem Rw.e_ok : ∀ r : Rw, r.e.ok
  | .val n k => by simp [Rw.e, Ent.ok]; decide +kernel
  | .exn n a i => by simp [Rw.e, Ent.ok]; decide +kernel
  | .fn n => by simp [Rw.e, Ent.ok]; decide +kernel
  | .mod n rs => by simp [Rw.e, Ent.ok]; exact Rw.es_ok rs
  | .shp => by simp [Rw.e, Ent.ok]; decide +kernel
theorem Rw.es_ok : ∀ rs : List Rw, Ent.oks (Rw.es rs)
  | [] => by simp [Rw.es, Ent.oks]
  | r :: rs => by simp [Rw.es, Ent.oks]; exact ⟨Rw.e_ok r, Rw.es_ok rs⟩
end
mutual
theorem Rw.e_rows : ∀ r : Rw, r.e.rows = []
  | .val n k => by simp [Rw.e, Ent.rows]
  | .exn n a i => by simp [Rw.e, Ent.rows]
  | .fn n => by simp [Rw.e, Ent.rows]
  | .mod n rs => by simp [Rw.e, Ent.rows, Rw.es_rows rs]
  | .shp => by simp [Rw.e, Ent.rows]
theorem Rw.es_rows : ∀ rs : List Rw, Ent.rowss (Rw.es rs) = []
  | [] => by simp [Rw.es, Ent.rowss]
  | r :: rs => by simp [Rw.es, Ent.rowss, Rw.e_rows r, Rw.es_rows rs]
end
mutual
theorem Rw.e_dep : ∀ r : Rw, r.e.dep = r.dep
  | .val n k => by simp [Rw.e, Ent.dep, Rw.dep]
  | .exn n a i => by simp [Rw.e, Ent.dep, Rw.dep]
  | .fn n => by simp [Rw.e, Ent.dep, Rw.dep]
  | .mod n rs => by simp [Rw.e, Ent.dep, Rw.dep, Rw.es_dep rs]
  | .shp => by simp [Rw.e, Ent.dep, Rw.dep]
theorem Rw.es_dep : ∀ rs : List Rw, Ent.deps (Rw.es rs) = Rw.deps rs
  | [] => by simp [Rw.es, Ent.deps, Rw.deps]
  | r :: rs => by simp [Rw.es, Ent.deps, Rw.deps, Rw.e_dep r, Rw.es_dep rs]
end
def namesE (rs : List Rw) : List Ent := basisE ++ Rw.es rs
theorem rows_names (rs : List Rw) : Ent.rowss (namesE rs) = brows := by
  unfold namesE
  rw [rowss_app, Rw.es_rows, List.append_nil]
  rfl
def ar9 (s : Int) : Nat := if s = 3 ∨ s = 5 ∨ s = 6 then 1 else 0
theorem basis_oks : Ent.oks basisE := by
  have n1 : ("shape" : Str) ≠ "con" := by decide +kernel
  have n2 : ("shape" : Str) ≠ "module" := by decide +kernel
  have n3 : ("exn" : Str) ≠ "con" := by decide +kernel
  have n4 : ("exn" : Str) ≠ "module" := by decide +kernel
  have n5 : ("val" : Str) ≠ "con" := by decide +kernel
  have n6 : ("val" : Str) ≠ "module" := by decide +kernel
  unfold basisE
  simp only [Ent.oks, Ent.ok, n1, n2, n3, n4, n5, n6, ne_eq, not_false_eq_true, and_self]
theorem basis_deps : Ent.deps basisE ≤ 0 := by
  unfold basisE
  simp only [Ent.deps, Ent.dep]
  decide
theorem oks_app : ∀ {a b : List Ent}, Ent.oks a → Ent.oks b → Ent.oks (a ++ b)
  | [], _, _, k => k
  | x :: a, b, h, k => by
    simp only [Ent.oks, List.cons_append] at h ⊢
    exact ⟨h.1, oks_app h.2 k⟩
theorem deps_app : ∀ {a b : List Ent} {n : Nat}, Ent.deps a ≤ n → Ent.deps b ≤ n → Ent.deps (a ++ b) ≤ n
  | [], _, _, _, k => k
  | x :: a, b, n, h, k => by
    simp only [Ent.deps, List.cons_append] at h ⊢
    obtain ⟨h1, h2⟩ := Nat.max_le.mp h
    exact Nat.max_le.mpr ⟨h1, deps_app h2 k⟩
theorem names_env (rs : List Rw) (h : Rw.deps rs ≤ 3) : Env ar9 (namesE rs) [] where
  oks := oks_app basis_oks (Rw.es_ok rs)
  deps := deps_app (Nat.le_trans basis_deps (by decide)) (by rw [Rw.es_dep]; exact h)
  few := by rw [rows_names]; decide +kernel
  rok := by
    rw [rows_names]
    intro r hr
    simp only [brows, basisE, Ent.rowss, Ent.rows, List.cons_append, List.nil_append, List.append_nil] at hr
    simp only [List.mem_cons, List.not_mem_nil, or_false] at hr
    rcases hr with rfl | rfl | rfl | rfl | rfl | rfl | rfl | rfl | rfl
    all_goals
      refine ⟨by simp [ar9], fun a e => ?_⟩
      first
        | (cases e; done)
        | (cases e; exact ⟨by simp [Sh.fit, Sh.fits, ar9], by simp [Sh.dep, Sh.deps] <;> decide⟩)
  stok := by simp [Vl.okas]
  ar3 := by decide
  arb := fun s => by unfold ar9; split <;> decide
/-! ### what was drawn agrees -/
theorem shp_fit : ∀ k : Nat, (shpOf k).fit ar9
  | 0 => by simp [shpOf, Sh.fit, Sh.fits, ar9]
  | 1 => by simp [shpOf, Sh.fit, Sh.fits, ar9]
  | 2 => by simp [shpOf, Sh.fit, Sh.fits, ar9]
  | _ + 3 => by simp [shpOf, Sh.fit, Sh.fits, ar9]
theorem val_agr {d : Nat} (hd : 3 ≤ d) : ∀ {k : Nat}, k < 4 → AG.agr brows [] d (shpOf k) (valOf k) = true := by
  intro k hk
  obtain ⟨d, rfl⟩ : ∃ e, d = e + 3 := ⟨d - 3, by omega⟩
  have h4 : k = 0 ∨ k = 1 ∨ k = 2 ∨ k = 3 := by omega
  rcases h4 with rfl | rfl | rfl | rfl
  · rfl
  · rfl
  · rfl
  · rfl
mutual
theorem agr_ok {d : Nat} (hd : 3 ≤ d) : ∀ r : Rw, r.wf → r.isF = true → r.agr d r.fv = true
  | .val n k, h, _ => by
    simp only [Rw.wf] at h
    simp only [Rw.agr, Rw.fv, Fv.vl]
    exact val_agr hd h.2
  | .exn n a i, _, _ => by simp [Rw.agr, Rw.fv]
  | .fn n, _, _ => by simp only [Rw.agr, Rw.fv, ft, Fv.vl, funM, Vl.tag, decide_true]
  | .mod n rs, h, _ => by
    simp only [Rw.wf] at h
    simp only [Rw.agr, Rw.fv]
    exact goA_ok hd rs h.2.1
  | .shp, _, e => by cases e
theorem goA_ok {d : Nat} (hd : 3 ≤ d) : ∀ rs : List Rw, Rw.wfs rs → Rw.goA d rs (Rw.fls rs) = true
  | [], _ => by simp [Rw.goA, Rw.fls]
  | r :: rs, h => by
    simp only [Rw.wfs] at h
    simp only [Rw.goA, Rw.fls]
    cases hf : r.isF with
    | true =>
      simp only [if_true, decide_true, Bool.true_and, Bool.and_eq_true]
      exact ⟨agr_ok hd r h.1 hf, goA_ok hd rs h.2⟩
    | false =>
      simp only [Bool.false_eq_true, if_false]
      exact goA_ok hd rs h.2
end
end LV

set_option Elab.async false
set_option maxRecDepth 100000
set_option linter.all false
set_option maxHeartbeats 4000000
namespace LV
open PySem L2 GD AG
/-! ### what is put in the place of a value -/
mutual
def Fv.ok : Fv → Prop
  | .lf v => v.oka ∧ v.tag ≠ "exn" ∧ v.tag ≠ "record"
  | .exn _ _ => True
  | .rcd fs => fs.length ≤ 1000 ∧ Fv.oks fs
def Fv.oks : List (Str × Fv) → Prop
  | [] => True
  | (_, f) :: r => f.ok ∧ Fv.oks r
end
theorem foks_mem : ∀ {l : List (Str × Fv)} {p : Str × Fv}, Fv.oks l → p ∈ l → p.2.ok
  | (x, f) :: r, p, h, m => by
    simp only [Fv.oks] at h
    rcases List.mem_cons.mp m with e | m
    · rw [e]; exact h.1
    · exact foks_mem h.2 m
theorem foks_all : ∀ {l : List (Str × Fv)}, (∀ p ∈ l, p.2.ok) → Fv.oks l
  | [], _ => by simp [Fv.oks]
  | (x, f) :: r, h => by
    simp only [Fv.oks]
    exact ⟨h (x, f) List.mem_cons_self, foks_all fun p hp => h p (List.mem_cons_of_mem _ hp)⟩
theorem ne_x (n : Str) : n ++ ("x" : Str) ≠ n := fun e => by
  have h1 : (n ++ ("x" : Str)).cps.size = n.cps.size := by rw [e]
  have h2 : (n ++ ("x" : Str)).cps.size = n.cps.size + 1 := by
    show (n.cps ++ ("x" : Str).cps).size = _
    rw [Array.size_append]
    rfl
  omega
theorem tag_ne {v : Vl} {t u : Str} (h : v.tag = t) (k : t ≠ u) : decide (v.tag = u) = false := by
  rw [h]; exact decide_eq_false k
def othF (kd : Int) (f : Fv) : Fv :=
  if kd = 0 then .lf packV else match f with
  | .exn i n => if kd = 1 then .exn i (n ++ ("x" : Str)) else .lf (.oth "packet" [.int i, .str n, .none])
  | .rcd fs => if kd = 1 then .rcd (fs ++ [(("fun Z" : Str), Fv.lf (.int 0))]) else .lf (.tup [])
  | .lf (.oth _ _) => if kd = 1 then .exn 4 "A" else .rcd []
  | .lf (.int i) => if kd = 1 then .lf (.tup [.int i, .int i]) else .lf (.con0 0 "Nil")
  | .lf (.tup l) => if kd = 1 then .lf (.int 0) else .lf (.tup [.tup l, .tup l])
  | .lf v => if kd = 1 then .lf (.con1 1 "Cons" (.tup [.int 0, v])) else .lf (.con0 0 "None")
theorem s1 : ("packet" : Str) ≠ "int" := by decide +kernel
theorem s2 : ("packet" : Str) ≠ "tuple" := by decide +kernel
theorem s3 : ("packet" : Str) ≠ "con" := by decide +kernel
theorem s4 : ("packet" : Str) ≠ "ref" := by decide +kernel
theorem s5 : ("packet" : Str) ≠ "fun" := by decide +kernel
theorem s6 : ("packet" : Str) ≠ "fix" := by decide +kernel
theorem s7 : ("packet" : Str) ≠ "exn" := by decide +kernel
theorem s8 : ("packet" : Str) ≠ "record" := by decide +kernel
theorem f1 : ("fun" : Str) ≠ "int" := by decide +kernel
theorem f2 : ("fun" : Str) ≠ "tuple" := by decide +kernel
theorem f3 : ("fun" : Str) ≠ "con" := by decide +kernel
theorem f4 : ("fun" : Str) ≠ "ref" := by decide +kernel
theorem f7 : ("fun" : Str) ≠ "exn" := by decide +kernel
theorem f8 : ("fun" : Str) ≠ "record" := by decide +kernel
theorem e5 : ("exn" : Str) ≠ "fun" := by decide +kernel
theorem e6 : ("exn" : Str) ≠ "fix" := by decide +kernel
theorem r5 : ("record" : Str) ≠ "fun" := by decide +kernel
theorem r6 : ("record" : Str) ≠ "fix" := by decide +kernel
theorem t1 : ("tuple" : Str) ≠ "int" := by decide +kernel
theorem t7 : ("tuple" : Str) ≠ "exn" := by decide +kernel
theorem t8 : ("tuple" : Str) ≠ "record" := by decide +kernel
theorem i7 : ("int" : Str) ≠ "exn" := by decide +kernel
theorem i8 : ("int" : Str) ≠ "record" := by decide +kernel
theorem c1 : ("con" : Str) ≠ "int" := by decide +kernel
theorem c7 : ("con" : Str) ≠ "exn" := by decide +kernel
theorem c8 : ("con" : Str) ≠ "record" := by decide +kernel
theorem agr_int {d : Nat} {v : Vl} (h : v.tag ≠ "int") : AG.agr brows [] (d + 1) (.c 0 []) v = false := by
  simp only [AG.agr]
  rw [if_pos (by decide)]
  exact decide_eq_false h
theorem agr_unit {d : Nat} (v : Vl) (h : v.isUnit = false) : AG.agr brows [] (d + 1) (.c 1 []) v = false := by
  simp only [AG.agr]
  rw [if_neg (by decide), if_pos (by decide)]
  cases v with
  | tup l => cases l <;> first | rfl | cases h
  | _ => rfl
theorem agr_fun {d : Nat} (a b : Sh) {v : Vl} (h : v.tag ≠ "fun") (k : v.tag ≠ "fix") : AG.agr brows [] (d + 1) (.f a b) v = false := by
  simp only [AG.agr]
  rw [decide_eq_false h, decide_eq_false k]
  rfl
theorem agr_list_oth {d : Nat} (g : Str) (r : List PyData) : AG.agr brows [] (d + 1) (.c 5 [.v 0]) (.oth g r) = false := by rfl
theorem agr_list_none {d : Nat} : AG.agr brows [] (d + 1) (.c 5 [.v 0]) (.con0 0 "None") = false := by
  have e : AG.agr brows [] (d + 1) (.c 5 [.v 0]) (.con0 0 "None") = (decide (("None" : Str) = "Nil") && true) := by rfl
  rw [e, decide_eq_false (by decide +kernel : ("None" : Str) ≠ "Nil")]
  rfl
theorem agr_list_cons {d : Nat} (x : Vl) : AG.agr brows [] (d + 3) (.c 5 [.v 0]) (.con1 1 "Cons" (.tup [.int 0, x])) = false := by
  have e : AG.agr brows [] (d + 3) (.c 5 [.v 0]) (.con1 1 "Cons" (.tup [.int 0, x])) = (decide (("Cons" : Str) = "Cons") && (AG.agr brows [] (d + 1) (.v 0) (.int 0) && zipAll (AG.agr brows [] (d + 1)) [.c 5 [.v 0]] [x])) := by rfl
  rw [e]
  simp [AG.agr]
theorem go_more {d : Nat} {rs : List Rw} (fs : List (Str × Fv)) (h : fs.length ≠ (due rs).length) : Rw.goA d rs fs = false := bad_labels fun e => h (by have := congrArg List.length e; simpa using this.symm)
theorem fls_len (rs : List Rw) : (Rw.fls rs).length = (due rs).length := by rw [fls_due, List.length_map]
theorem oth_bad {d : Nat} (hd : 3 ≤ d) (kd : Int) (h0 : 0 ≤ kd) (h3 : kd < 3) : ∀ r : Rw, r.wf → r.isF = true → r.agr d (othF kd r.fv) = false := by
  obtain ⟨d, rfl⟩ : ∃ e, d = e + 3 := ⟨d - 3, by omega⟩
  have hk : kd = 0 ∨ kd = 1 ∨ kd = 2 := by omega
  intro r hw hf
  cases r with
  | val n k =>
    simp only [Rw.wf] at hw
    have h4 : k = 0 ∨ k = 1 ∨ k = 2 ∨ k = 3 := by omega
    rcases h4 with rfl | rfl | rfl | rfl
    · rcases hk with rfl | rfl | rfl
      · show AG.agr brows [] (d + 3) (.c 0 []) packV = false
        exact agr_int s1
      · show AG.agr brows [] (d + 3) (.c 0 []) (.tup [.int 7, .int 7]) = false
        exact agr_int t1
      · show AG.agr brows [] (d + 3) (.c 0 []) (.con0 0 "Nil") = false
        exact agr_int c1
    · rcases hk with rfl | rfl | rfl
      · show AG.agr brows [] (d + 3) (.c 1 []) packV = false
        exact agr_unit _ rfl
      · show AG.agr brows [] (d + 3) (.c 1 []) (.int 0) = false
        exact agr_unit _ rfl
      · show AG.agr brows [] (d + 3) (.c 1 []) (.tup [.tup [], .tup []]) = false
        exact agr_unit _ rfl
    · rcases hk with rfl | rfl | rfl
      · show AG.agr brows [] (d + 3) (.f (.c 0 []) (.c 0 [])) packV = false
        exact agr_fun _ _ s5 s6
      · show AG.agr brows [] (d + 3) (.f (.c 0 []) (.c 0 [])) (Fv.exn 4 "A").vl = false
        exact agr_fun _ _ e5 e6
      · show AG.agr brows [] (d + 3) (.f (.c 0 []) (.c 0 [])) (Fv.rcd []).vl = false
        exact agr_fun _ _ r5 r6
    · rcases hk with rfl | rfl | rfl
      · show AG.agr brows [] (d + 3) (.c 5 [.v 0]) packV = false
        exact agr_list_oth _ _
      · show AG.agr brows [] (d + 3) (.c 5 [.v 0]) (.con1 1 "Cons" (.tup [.int 0, .con0 0 "Nil"])) = false
        exact agr_list_cons _
      · show AG.agr brows [] (d + 3) (.c 5 [.v 0]) (.con0 0 "None") = false
        exact agr_list_none
  | exn n a i =>
    rcases hk with rfl | rfl | rfl
    · rfl
    · show decide (n ++ ("x" : Str) = n) = false
      exact decide_eq_false (ne_x n)
    · rfl
  | fn n =>
    rcases hk with rfl | rfl | rfl
    · show decide (packV.tag = "fun") = false
      exact decide_eq_false s5
    · show decide ((Fv.exn 4 "A").vl.tag = "fun") = false
      exact decide_eq_false e5
    · show decide ((Fv.rcd []).vl.tag = "fun") = false
      exact decide_eq_false r5
  | mod n rs =>
    rcases hk with rfl | rfl | rfl
    · rfl
    · show Rw.goA (d + 3) rs (Rw.fls rs ++ [(("fun Z" : Str), Fv.lf (.int 0))]) = false
      exact go_more _ (by simp [fls_len])
    · rfl
  | shp => cases hf
theorem val_ok : ∀ k : Nat, (Fv.lf (valOf k)).ok
  | 0 => by simp only [Fv.ok, valOf, Vl.oka, Vl.tag]; exact ⟨trivial, i7, i8⟩
  | 1 => by simp only [Fv.ok, valOf, Vl.oka, Vl.okas, Vl.tag]; exact ⟨trivial, t7, t8⟩
  | 2 => by simp only [Fv.ok, valOf, funV, Vl.oka, Vl.tag]; exact ⟨⟨f1, f2, f3, f4⟩, f7, f8⟩
  | _ + 3 => by simp only [Fv.ok, valOf, Vl.oka, Vl.tag]; exact ⟨trivial, c7, c8⟩
theorem fls_le (rs : List Rw) : (Rw.fls rs).length ≤ rs.length := by rw [fls_len]; exact List.length_filter_le _ _
mutual
theorem fv_ok : ∀ r : Rw, r.wf → r.fv.ok
  | .val n k, _ => by simp only [Rw.fv]; exact val_ok k
  | .exn n a i, _ => by simp [Rw.fv, Fv.ok]
  | .fn n, _ => by simp only [Rw.fv, Fv.ok, funM, Vl.oka, Vl.tag]; exact ⟨⟨f1, f2, f3, f4⟩, f7, f8⟩
  | .mod n rs, h => by
    simp only [Rw.wf] at h
    simp only [Rw.fv, Fv.ok]
    exact ⟨Nat.le_trans (fls_le rs) (by omega), fls_ok rs h.2.1⟩
  | .shp, _ => by simp only [Rw.fv, Fv.ok, Vl.oka, Vl.tag]; exact ⟨trivial, i7, i8⟩
theorem fls_ok : ∀ rs : List Rw, Rw.wfs rs → Fv.oks (Rw.fls rs)
  | [], _ => by simp [Rw.fls, Fv.oks]
  | r :: rs, h => by
    simp only [Rw.wfs] at h
    simp only [Rw.fls]
    cases r.isF with
    | true => simp only [if_true, Fv.oks]; exact ⟨fv_ok r h.1, fls_ok rs h.2⟩
    | false => simp only [Bool.false_eq_true, if_false]; exact fls_ok rs h.2
end
theorem foks_app {a b : List (Str × Fv)} (h : Fv.oks a) (k : Fv.oks b) : Fv.oks (a ++ b) := foks_all fun p hp => by
  rcases List.mem_append.mp hp with m | m
  · exact foks_mem h m
  · exact foks_mem k m
theorem oth_ok (kd : Int) (f : Fv) (h : f.ok) (h9 : ∀ fs, f = .rcd fs → fs.length ≤ 900) : (othF kd f).ok := by
  unfold othF
  split
  · simp only [Fv.ok, packV, Vl.oka, Vl.tag]; exact ⟨⟨s1, s2, s3, s4⟩, s7, s8⟩
  · cases f with
    | exn i n =>
      simp only
      split
      · simp [Fv.ok]
      · simp only [Fv.ok, Vl.oka, Vl.tag]; exact ⟨⟨s1, s2, s3, s4⟩, s7, s8⟩
    | rcd fs =>
      simp only
      split
      · simp only [Fv.ok] at h ⊢
        refine ⟨by have := h9 fs rfl; rw [List.length_append]; simp; omega, foks_app h.2 ?_⟩
        exact (by simp only [Fv.oks, Fv.ok, Vl.oka, Vl.tag]; exact ⟨⟨trivial, i7, i8⟩, trivial⟩)
      · simp only [Fv.ok, Vl.oka, Vl.okas, Vl.tag]; exact ⟨trivial, t7, t8⟩
    | lf v =>
      simp only [Fv.ok] at h
      cases v with
      | int i =>
        simp only
        split
        · simp only [Fv.ok, Vl.oka, Vl.okas, Vl.tag]; exact ⟨⟨trivial, trivial, trivial⟩, t7, t8⟩
        · simp only [Fv.ok, Vl.oka, Vl.tag]; exact ⟨trivial, c7, c8⟩
      | tup l =>
        simp only
        split
        · simp only [Fv.ok, Vl.oka, Vl.tag]; exact ⟨trivial, i7, i8⟩
        · have h1 := h.1
          simp only [Vl.oka] at h1
          simp only [Fv.ok, Vl.oka, Vl.okas, Vl.tag]; exact ⟨⟨h1, h1, trivial⟩, t7, t8⟩
      | oth g r =>
        simp only
        split
        · simp [Fv.ok]
        · simp [Fv.ok, Fv.oks]
      | con0 i n =>
        simp only
        split
        · simp only [Fv.ok, Vl.oka, Vl.okas, Vl.tag]; exact ⟨⟨trivial, trivial, trivial⟩, c7, c8⟩
        · simp only [Fv.ok, Vl.oka, Vl.tag]; exact ⟨trivial, c7, c8⟩
      | con1 i n u =>
        have h1 := h.1
        simp only
        split
        · simp only [Fv.ok, Vl.oka, Vl.okas, Vl.tag]; exact ⟨⟨trivial, by simpa [Vl.oka] using h1, trivial⟩, c7, c8⟩
        · simp only [Fv.ok, Vl.oka, Vl.tag]; exact ⟨trivial, c7, c8⟩
      | ref i =>
        simp only
        split
        · simp only [Fv.ok, Vl.oka, Vl.okas, Vl.tag]; exact ⟨⟨trivial, trivial, trivial⟩, c7, c8⟩
        · simp only [Fv.ok, Vl.oka, Vl.tag]; exact ⟨trivial, c7, c8⟩
/-! ### the changed fields -/
theorem fls_at {rs : List Rw} {i : Nat} {p : Str × Fv} (h : (Rw.fls rs)[i]? = some p) : ∃ r, (due rs)[i]? = some r ∧ p = (r.label, r.fv) ∧ r ∈ rs ∧ r.isF = true := by
  rw [fls_due, List.getElem?_map] at h
  cases e : (due rs)[i]? with
  | none => rw [e] at h; cases h
  | some r =>
    rw [e] at h
    cases h
    have m := List.mem_of_getElem? e
    unfold due at m
    obtain ⟨m1, m2⟩ := List.mem_filter.mp m
    exact ⟨r, rfl, rfl, m1, m2⟩
theorem bad_lab {d : Nat} {rs : List Rw} {fs : List (Str × Fv)} {i : Nat} {r : Rw} {p : Str × Fv} (e : (due rs)[i]? = some r) (e2 : fs[i]? = some p) (h : p.1 ≠ r.label) : Rw.goA d rs fs = false := by
  refine bad_labels fun z => h ?_
  have h1 : ((due rs).map Rw.label)[i]? = some r.label := by rw [List.getElem?_map, e]; rfl
  have h2 : (fs.map Prod.fst)[i]? = some p.1 := by rw [List.getElem?_map, e2]; rfl
  rw [z, h2] at h1
  exact Option.some.inj h1
theorem mid_at {α : Type} {l : List α} {i : Nat} {x : α} {q : List α} (h : i ≤ l.length) : (l.take i ++ [x] ++ q)[i]? = some x := by
  rw [List.append_assoc, List.getElem?_append_right (by rw [List.length_take]; omega), List.length_take]
  rw [show i - min i l.length = 0 by omega]
  rfl
theorem bad_drop {d : Nat} {rs : List Rw} {i : Nat} (h : i < (Rw.fls rs).length) : Rw.goA d rs ((Rw.fls rs).take i ++ (Rw.fls rs).drop (i + 1)) = false := by
  refine go_more _ ?_
  rw [List.length_append, List.length_take, List.length_drop]
  have := fls_len rs
  omega
theorem bad_more {d : Nat} {rs : List Rw} {p : Str × Fv} : Rw.goA d rs (Rw.fls rs ++ [p]) = false := by
  refine go_more _ ?_
  rw [List.length_append]
  have := fls_len rs
  simp
  omega
theorem bad_name {d : Nat} {rs : List Rw} {i : Nat} {p : Str × Fv} (h : (Rw.fls rs)[i]? = some p) : Rw.goA d rs ((Rw.fls rs).take i ++ [(p.1 ++ ("x" : Str), p.2)] ++ (Rw.fls rs).drop (i + 1)) = false := by
  obtain ⟨r, e, rfl, _⟩ := fls_at h
  have hi := (List.getElem?_eq_some_iff.mp h).1
  exact bad_lab e (mid_at (by omega)) (ne_x _)
theorem bad_val {d : Nat} {rs : List Rw} {i : Nat} {p : Str × Fv} {r : Rw} {f : Fv} (h : (Rw.fls rs)[i]? = some p) (e : (due rs)[i]? = some r) (hb : r.agr d f = false) : Rw.goA d rs ((Rw.fls rs).take i ++ [(p.1, f)] ++ (Rw.fls rs).drop (i + 1)) = false := by
  have hi := (List.getElem?_eq_some_iff.mp h).1
  exact bad_at e (mid_at (by omega)) hb
theorem bad_swap {d : Nat} {rs : List Rw} {i : Nat} {p q : Str × Fv} (hn : ((due rs).map Rw.label).Nodup) (h : (Rw.fls rs)[i]? = some q) (h2 : (Rw.fls rs)[i + 1]? = some p) (t : List (Str × Fv)) :
    Rw.goA d rs ((Rw.fls rs).take i ++ [p, q] ++ t) = false := by
  obtain ⟨r, e, rfl, _⟩ := fls_at h
  obtain ⟨r2, e2, rfl, _⟩ := fls_at h2
  have hi := (List.getElem?_eq_some_iff.mp h).1
  have hx : ((Rw.fls rs).take i ++ [(r2.label, r2.fv), (r.label, r.fv)] ++ t)[i]? = some (r2.label, r2.fv) := by
    have := mid_at (l := Rw.fls rs) (i := i) (x := (r2.label, r2.fv)) (q := (r.label, r.fv) :: t) (by omega)
    simpa [List.append_assoc] using this
  refine bad_lab e hx fun z => ?_
  have g1 : ((due rs).map Rw.label)[i]? = some r.label := by rw [List.getElem?_map, e]; rfl
  have g2 : ((due rs).map Rw.label)[i + 1]? = some r2.label := by rw [List.getElem?_map, e2]; rfl
  have l1 := (List.getElem?_eq_some_iff.mp g1).1
  have := (List.getElem?_inj l1 hn).mp (g1.trans (by rw [g2]; exact congrArg some z.symm))
  omega
end LV

set_option Elab.async false
set_option maxRecDepth 100000
set_option linter.all false
set_option maxHeartbeats 4000000
set_option pp.maxSteps 400
/-! levels in the order in which they are drawn -/
namespace LV
open PySem L2 GD AG
theorem str_app_inj {x y n m : Str} (h : x ++ n = y ++ m) (hl : x.cps.size = y.cps.size) : x = y ∧ n = m := by
  have e : x.cps ++ n.cps = y.cps ++ m.cps := congrArg Str.cps h
  have e2 : x.cps.toList ++ n.cps.toList = y.cps.toList ++ m.cps.toList := by
    have := congrArg Array.toList e
    simpa using this
  obtain ⟨a, b⟩ := List.append_inj e2 (by simpa using hl)
  refine ⟨?_, ?_⟩
  · have : x.cps = y.cps := Array.ext' a
    cases x; cases y; simp_all
  · have : n.cps = m.cps := Array.ext' b
    cases n; cases m; simp_all
theorem label_inj {r q : Rw} (hr : r.isF = true) (hq : q.isF = true) (h : r.label = q.label) : r.tag = q.tag ∧ r.name = q.name := by
  cases r <;> cases q <;> simp only [Rw.isF, Bool.false_eq_true] at hr hq <;> simp only [Rw.label] at h <;> obtain ⟨a, b⟩ := str_app_inj h (by decide +kernel) <;> first
    | exact ⟨rfl, b⟩
    | exact absurd a (by decide +kernel)
def tagAt (k : Nat) : Str := tags.getD k "val"
/-- the parts in turn; the S are shape entries -/
inductive Done : Nat → List Rw → Prop
  | nil : Done 0 []
  | more {k : Nat} {pre cur S : List Rw} : Done k pre → (∀ r ∈ cur, r.tag = tagAt k) → (cur.map Rw.name).Sublist (tagN k) → (∀ r ∈ S, r = .shp) → Done (k + 1) (pre ++ cur ++ S)
theorem fil_app (t : Str) (a b : List Rw) : fil t (a ++ b) = fil t a ++ fil t b := List.filter_append ..
theorem due_app (a b : List Rw) : due (a ++ b) = due a ++ due b := List.filter_append ..
theorem fil_all {t : Str} {l : List Rw} (h : ∀ r ∈ l, r.tag = t) : fil t l = l := List.filter_eq_self.mpr fun r hr => decide_eq_true (h r hr)
theorem fil_none {t : Str} {l : List Rw} (h : ∀ r ∈ l, r.tag ≠ t) : fil t l = [] := List.filter_eq_nil_iff.mpr fun r hr z => h r hr (of_decide_eq_true z)
theorem tag_F {r : Rw} (h : r.tag ∈ tags) : r.isF = true := by
  cases r <;> first | rfl | (exact absurd h (by decide +kernel))
theorem due_all {l : List Rw} (h : ∀ r ∈ l, r.isF = true) : due l = l := List.filter_eq_self.mpr h
theorem due_none {l : List Rw} (h : ∀ r ∈ l, r = .shp) : due l = [] := List.filter_eq_nil_iff.mpr fun r hr z => by rw [h r hr] at z; cases z
theorem fil_shp {t : Str} (ht : t ∈ tags) {l : List Rw} (h : ∀ r ∈ l, r = .shp) : fil t l = [] := fil_none fun r hr z => by
  rw [h r hr] at z
  have : ("shape" : Str) ∉ tags := by decide +kernel
  exact this (by rw [show ("shape" : Str) = t from z]; exact ht)
theorem tagAt_mem {k : Nat} (h : k < 4) : tagAt k ∈ tags := by
  have h4 : k = 0 ∨ k = 1 ∨ k = 2 ∨ k = 3 := by omega
  rcases h4 with rfl | rfl | rfl | rfl <;> decide +kernel
theorem tagAt_inj {i k : Nat} (hi : i < 4) (hk : k < 4) (h : tagAt i = tagAt k) : i = k := by
  have key : ∀ i : Fin 4, ∀ k : Fin 4, tagAt i = tagAt k → i = k := by decide +kernel
  exact congrArg Fin.val (key ⟨i, hi⟩ ⟨k, hk⟩ h)
theorem tagN_sorted (k : Nat) : (tagN k).Pairwise fun a b => KSt.ltT a b = true := by
  match k with
  | 0 => show ((["+", "a", "b2", "c"] : List Str)).Pairwise _; decide +kernel
  | 1 => show ((["A", "B", "C", "D"] : List Str)).Pairwise _; decide +kernel
  | 2 => show ((["M", "N", "O", "P"] : List Str)).Pairwise _; decide +kernel
  | k + 3 => show ((["F", "G", "H", "I"] : List Str)).Pairwise _; decide +kernel
theorem sorted_nodup {l : List Str} (h : l.Pairwise fun a b => KSt.ltT a b = true) : l.Nodup := h.imp fun {a b} q z => by
  subst z
  have := KSt.ltT_asym q
  rw [q] at this
  cases this
theorem done_fil {k : Nat} {rs : List Rw} (h : Done k rs) (hk : k ≤ 4) : (∀ i, i < 4 → k ≤ i → fil (tagAt i) rs = []) ∧ (∀ i, i < 4 → ((fil (tagAt i) rs).map Rw.name).Pairwise fun a b => KSt.ltT a b = true) ∧
    due rs = ((tags.take k).map fun t => fil t rs).flatten ∧ (∀ r ∈ due rs, ∃ i, i < k ∧ r.tag = tagAt i) ∧ ((due rs).map Rw.label).Nodup := by
  induction h with
  | nil => exact ⟨fun i _ _ => rfl, fun i _ => .nil, rfl, fun r hr => (by cases hr), .nil⟩
  | @more k pre cur S _ hc hn hS ih =>
    obtain ⟨g1, g2, g3, g4, g5⟩ := ih (by omega)
    have hk4 : k < 4 := by omega
    have hcF : ∀ r ∈ cur, r.isF = true := fun r hr => tag_F (by rw [hc r hr]; exact tagAt_mem hk4)
    have fk : ∀ i, i < 4 → fil (tagAt i) (pre ++ cur ++ S) = fil (tagAt i) pre ++ (if i = k then cur else []) := fun i hi => by
      rw [fil_app, fil_app, fil_shp (tagAt_mem hi) hS, List.append_nil]
      congr 1
      by_cases e : i = k
      · subst e
        rw [if_pos rfl, fil_all hc]
      · rw [if_neg e]
        exact fil_none fun r hr z => e (tagAt_inj hi hk4 (by rw [← z, hc r hr]))
    have dk : due (pre ++ cur ++ S) = due pre ++ cur := by rw [due_app, due_app, due_none hS, due_all hcF, List.append_nil]
    refine ⟨fun i hi hki => ?_, fun i hi => ?_, ?_, fun r hr => ?_, ?_⟩
    · rw [fk i hi, g1 i hi (by omega), if_neg (by omega)]
      rfl
    · rw [fk i hi]
      by_cases e : i = k
      · subst e
        rw [if_pos rfl, g1 i hi (Nat.le_refl _), List.nil_append]
        exact (tagN_sorted i).sublist hn
      · rw [if_neg e, List.append_nil]
        exact g2 i hi
    · have et : tags[k]? = some (tagAt k) := by
        have h4 : k = 0 ∨ k = 1 ∨ k = 2 ∨ k = 3 := by omega
        rcases h4 with rfl | rfl | rfl | rfl <;> rfl
      rw [dk, g3, List.take_add_one, et, List.map_append, List.flatten_append]
      have e1 : (tags.take k).map (fun t => fil t (pre ++ cur ++ S)) = (tags.take k).map fun t => fil t pre := by
        refine List.map_congr_left fun t ht => ?_
        obtain ⟨i, hi⟩ := List.getElem?_of_mem ht
        rw [List.getElem?_take] at hi
        split at hi
        · rename_i hik
          have hi4 : i < 4 := by omega
          have : t = tagAt i := by
            unfold tagAt
            rw [List.getD_eq_getElem?_getD, hi]
            rfl
          rw [this, fk i hi4, if_neg (by omega), List.append_nil]
        · cases hi
      rw [e1]
      congr 1
      show cur = [fil (tagAt k) (pre ++ cur ++ S)].flatten
      rw [fk k hk4, g1 k hk4 (Nat.le_refl _), if_pos rfl]
      simp
    · rw [dk] at hr
      rcases List.mem_append.mp hr with m | m
      · obtain ⟨i, hi, e⟩ := g4 r m
        exact ⟨i, by omega, e⟩
      · exact ⟨k, by omega, hc r m⟩
    · rw [dk, List.map_append]
      refine List.nodup_append.mpr ⟨g5, ?_, fun a ha b hb z => ?_⟩
      · have hnn : (cur.map Rw.name).Nodup := sorted_nodup ((tagN_sorted k).sublist hn)
        have hp := List.pairwise_map.mp hnn
        refine List.pairwise_map.mpr (hp.imp_of_mem fun {x y} hx hy q z => ?_)
        exact q (label_inj (hcF x hx) (hcF y hy) z).2
      · obtain ⟨x, hx, rfl⟩ := List.mem_map.mp ha
        obtain ⟨y, hy, rfl⟩ := List.mem_map.mp hb
        obtain ⟨i, hi, ex⟩ := g4 x hx
        have := (label_inj (List.mem_filter.mp hx).2 (hcF y hy) z).1
        rw [ex, hc y hy] at this
        have := tagAt_inj (by omega) hk4 this
        omega
theorem done_srt {rs : List Rw} (h : Done 4 rs) : Srt rs := by
  obtain ⟨_, g2, g3, _, g5⟩ := done_fil h (Nat.le_refl _)
  refine ⟨fun t ht => ?_, g3.symm, g5⟩
  obtain ⟨i, hi⟩ := List.getElem?_of_mem ht
  have hi4 : i < 4 := (List.getElem?_eq_some_iff.mp hi).1
  have e : t = tagAt i := by
    unfold tagAt
    rw [List.getD_eq_getElem?_getD, hi]
    rfl
  rw [e]
  exact g2 i hi4
theorem done_len {k : Nat} {rs : List Rw} (h : Done k rs) : (due rs).length ≤ 4 * k ∨ 4 < k := by
  induction h with
  | nil => left; simp [due]
  | @more k pre cur S _ hc hn hS ih =>
    rcases Nat.lt_or_ge 3 k with h | h
    · right; omega
    · left
      have l1 : cur.length ≤ 4 := by
        have := hn.length_le
        rw [List.length_map] at this
        have : (tagN k).length = 4 := by
          have h4 : k = 0 ∨ k = 1 ∨ k = 2 ∨ k = 3 := by omega
          rcases h4 with rfl | rfl | rfl | rfl <;> rfl
        omega
      have l2 : (due cur).length ≤ cur.length := List.length_filter_le _ _
      rcases ih with ih | ih
      · rw [due_app, due_app, due_none hS, List.append_nil, List.length_append]
        omega
      · omega
end LV

set_option Elab.async false
set_option maxRecDepth 100000
set_option linter.all false
set_option maxHeartbeats 40000000
namespace K89
open PySem L2 GD AG LV LamX
section
variable {P : Program} {w : World} {K : PySem.W.Frag} {mg : Str → Option Value} {base : Heap} {A : Adr}
/-- a def whose code object is known -/
theorem Fun.okC {x qual : Str} {st : Stmt} {f : Addr} {fd : FuncData} {N ps : List Str} {k : Nat} {sp : Sp} {c : Addr} (F : Fun K x qual st f fd) (hc : fd.code = .ref c) (S : FnScope N ps (defScope st)) (len : ∀ vs H Q E, sp vs H Q E → vs.length = ps.length)
    (hbody : ∀ (A : Around) (outer : List Env) (s : Shared) (H : Hp) (vs : List V) (Q : VK) (E : XK), Room k (A.deeper (PyProof.Rows.envOfC qual (defScope st) s.heap.objs.size f (.ref c))) → sp vs H Q E →
      ∃ t, PSs (cxOf CX0 P w K mg base N qual (defScope st) f (.ref c) A outer s H E).nox (defBody st) t ∧ t { nx := fun _ H' => Q .non H', rt := Q } (L2.start N vs) H) : FnOk P w K mg base CX0 (k + 1) f fd ps sp := by
  obtain ⟨oc, od, kV, doc, pm, an, cdv, ct, osl, rfl, lk, hcd⟩ := F.ex
  obtain rfl : cdv = .ref c := hc
  refine fn_of lk hcd S len fun A outer s H vs Q E hr hsp => ?_
  obtain ⟨t, h, q⟩ := hbody A outer s H vs Q E hr hsp
  exact ⟨t, h.nox, q⟩
def TT (PT : Addr) : List (Addr × Str) := [(PT, (("ordered_fields" : Str) ++ (".<locals>." : Str)) ++ ("<lambda>" : Str))]
theorem Sm.ext {H H' : Hp} (s : Sm H H') : ExtN H H' := fun a o e _ => s a o e
theorem _root_.LamX.ExtN.kt {H H' : Hp} (s : ExtN H H') : KT H H' := fun a xs q => by
  rcases q with q | ⟨o, q⟩
  · exact .inl (s _ _ q fun _ z => by cases z)
  · exact .inr ⟨o, s _ _ q fun _ z => by cases z⟩
/-! ### rows as objects -/
theorem inv_rw {H : Hp} {x : V} (r : Rw) (h : Rp K H x r.d) : ∃ a y ws, x = .ref a ∧ SqT K H a (.str r.tag :: .str r.name :: y :: ws) ∧
    (∀ n k, r = .val n k → ∃ p, y = .ref p ∧ ∃ z s, SqT K H p [z, s] ∧ Rp K H s (shpOf k).d) ∧ (∀ n rs, r = .mod n rs → Rp K H y (.tuple (Rw.ds rs))) := by
  cases r with
  | val n k =>
    simp only [Rw.d] at h
    obtain ⟨a, xs, rfl, s, r0⟩ := h.tup_inv
    obtain ⟨v1, w1, rfl, h1, r1⟩ := r0.cons_inv
    obtain ⟨v2, w2, rfl, h2, r2⟩ := r1.cons_inv
    obtain ⟨v3, w3, rfl, h3, r3⟩ := r2.cons_inv
    rw [h1.str_inv, h2.str_inv] at s
    obtain ⟨p, ps, rfl, sp, rp⟩ := h3.tup_inv
    obtain ⟨u1, q1, rfl, g1, t1⟩ := rp.cons_inv
    obtain ⟨u2, q2, rfl, g2, t2⟩ := t1.cons_inv
    have := t2.nil_inv
    subst this
    exact ⟨a, _, w3, rfl, s, fun n' k' e => by cases e; exact ⟨p, rfl, u1, u2, sp, g2⟩, fun _ _ e => by cases e⟩
  | exn n b i =>
    simp only [Rw.d] at h
    obtain ⟨a, xs, rfl, s, r0⟩ := h.tup_inv
    obtain ⟨v1, w1, rfl, h1, r1⟩ := r0.cons_inv
    obtain ⟨v2, w2, rfl, h2, r2⟩ := r1.cons_inv
    obtain ⟨v3, w3, rfl, h3, r3⟩ := r2.cons_inv
    rw [h1.str_inv, h2.str_inv] at s
    exact ⟨a, _, w3, rfl, s, (fun _ _ e => by cases e), fun _ _ e => by cases e⟩
  | fn n =>
    simp only [Rw.d] at h
    obtain ⟨a, xs, rfl, s, r0⟩ := h.tup_inv
    obtain ⟨v1, w1, rfl, h1, r1⟩ := r0.cons_inv
    obtain ⟨v2, w2, rfl, h2, r2⟩ := r1.cons_inv
    obtain ⟨v3, w3, rfl, h3, r3⟩ := r2.cons_inv
    rw [h1.str_inv, h2.str_inv] at s
    exact ⟨a, _, w3, rfl, s, (fun _ _ e => by cases e), fun _ _ e => by cases e⟩
  | mod n rs =>
    simp only [Rw.d] at h
    obtain ⟨a, xs, rfl, s, r0⟩ := h.tup_inv
    obtain ⟨v1, w1, rfl, h1, r1⟩ := r0.cons_inv
    obtain ⟨v2, w2, rfl, h2, r2⟩ := r1.cons_inv
    obtain ⟨v3, w3, rfl, h3, r3⟩ := r2.cons_inv
    rw [h1.str_inv, h2.str_inv] at s
    exact ⟨a, _, w3, rfl, s, (fun _ _ e => by cases e), fun _ _ e => by cases e; exact h3⟩
  | shp =>
    simp only [Rw.d] at h
    obtain ⟨a, xs, rfl, s, r0⟩ := h.tup_inv
    obtain ⟨v1, w1, rfl, h1, r1⟩ := r0.cons_inv
    obtain ⟨v2, w2, rfl, h2, r2⟩ := r1.cons_inv
    obtain ⟨v3, w3, rfl, h3, r3⟩ := r2.cons_inv
    rw [h1.str_inv, h2.str_inv] at s
    exact ⟨a, _, w3, rfl, s, (fun _ _ e => by cases e), fun _ _ e => by cases e⟩
theorem n_ve : decide (V.str "exn" = V.str "val") = false := by decide +kernel
theorem n_vm : decide (V.str "module" = V.str "val") = false := by decide +kernel
theorem n_vf : decide (V.str "functor" = V.str "val") = false := by decide +kernel
theorem n_em : decide (V.str "module" = V.str "exn") = false := by decide +kernel
theorem n_ef : decide (V.str "functor" = V.str "exn") = false := by decide +kernel
theorem n_mf : decide (V.str "functor" = V.str "module") = false := by decide +kernel
theorem y_s (x : Str) : decide (V.str x = V.str x) = true := decide_eq_true rfl
theorem allN_len {n : Str} (h : n ∈ allN) : n.length ≤ 2 := by
  have : ∀ x ∈ allN, x.length ≤ 2 := by decide +kernel
  exact this n h
theorem allN_ok {n : Str} (h : n ∈ allN) : PyData.strOk n = true := by
  have : ∀ x ∈ allN, PyData.strOk x = true := by decide +kernel
  exact this n h
theorem name_mem {r : Rw} (h : r.wf) (hf : r.isF = true) : r.name ∈ allN := by
  cases r with
  | val n k => simp only [Rw.wf] at h; exact h.1
  | exn n b i => simp only [Rw.wf] at h; exact h
  | fn n => simp only [Rw.wf] at h; exact h
  | mod n rs => simp only [Rw.wf] at h; exact h.1
  | shp => cases hf
theorem sum_le {n : Str} (h : n ∈ allN) {x : Str} (hx : x.length ≤ 10) : x.length + n.length ≤ sizeLine := by
  have := allN_len h
  exact small_le (by omega)
/-! ### the label -/
def spLabel (K : PySem.W.Frag) : Sp := fun vs H Q _ => ∃ (x : V) (r : Rw), vs = [x] ∧ Rp K H x r.d ∧ r.wf ∧ r.isF = true ∧ Q (.str r.label) H
theorem ok_label (T : Txt K mg A) : FnOk P w K mg base CX0 1 A.f_label_of A.d_label_of ["entry"] (spLabel K) := by
  refine T.F_label_of.ok sc_label_of (fun vs H Q E h => ?_) (fun cdv Ar outer s H vs Q E hr h => ?_)
  · obtain ⟨x, r, rfl, _⟩ := h
    rfl
  · obtain ⟨x, r, rfl, hx, hw, hf, k⟩ := h
    refine ⟨_, (pss_cons (ps_if (pt_cmpR op_eq (pe_ix (ixt (K := K) rfl) (pv 0) pe_int (fun _ _ => rfl)) pe_str (nomark _)) (pss_one (ps_ret (pe_op op_add_str pe_str (pe_ix (ixt (K := K) rfl) (pv 0) pe_int (fun _ _ => rfl))))) pss_nil) (pss_cons (ps_if (pt_cmpR op_eq (pe_ix (ixt (K := K) rfl) (pv 0) pe_int (fun _ _ => rfl)) pe_str (nomark _)) (pss_one (ps_ret (pe_op op_add_str pe_str (pe_ix (ixt (K := K) rfl) (pv 0) pe_int (fun _ _ => rfl))))) pss_nil) (pss_cons (ps_if (pt_cmpR op_eq (pe_ix (ixt (K := K) rfl) (pv 0) pe_int (fun _ _ => rfl)) pe_str (nomark _)) (pss_one (ps_ret (pe_op op_add_str pe_str (pe_ix (ixt (K := K) rfl) (pv 0) pe_int (fun _ _ => rfl))))) pss_nil) (pss_cons (ps_if (pt_cmpR op_eq (pe_ix (ixt (K := K) rfl) (pv 0) pe_int (fun _ _ => rfl)) pe_str (nomark _)) (pss_one (ps_ret (pe_op op_add_str pe_str (pe_ix (ixt (K := K) rfl) (pv 0) pe_int (fun _ _ => rfl))))) pss_nil) (pss_one (ps_ret pe_non)))))), ?_⟩
    obtain ⟨a, y, ws, rfl, hs, _⟩ := inv_rw r hx
    have hn := name_mem hw hf
    cases r with
    | val n k0 =>
      refine ⟨_, rfl, a, _, _, _, rfl, rfl, hs, at0, rfl, _, rfl, iteY (y_s _) ?_⟩
      exact ⟨_, rfl, a, _, _, _, rfl, rfl, hs, at1, _, _, rfl, rfl, sum_le hn (by decide +kernel), k⟩
    | exn n b i =>
      refine ⟨_, rfl, a, _, _, _, rfl, rfl, hs, at0, rfl, _, rfl, iteN n_ve ?_⟩
      refine ⟨_, rfl, a, _, _, _, rfl, rfl, hs, at0, rfl, _, rfl, iteY (y_s _) ?_⟩
      exact ⟨_, rfl, a, _, _, _, rfl, rfl, hs, at1, _, _, rfl, rfl, sum_le hn (by decide +kernel), k⟩
    | mod n rs =>
      refine ⟨_, rfl, a, _, _, _, rfl, rfl, hs, at0, rfl, _, rfl, iteN n_vm ?_⟩
      refine ⟨_, rfl, a, _, _, _, rfl, rfl, hs, at0, rfl, _, rfl, iteN n_em ?_⟩
      refine ⟨_, rfl, a, _, _, _, rfl, rfl, hs, at0, rfl, _, rfl, iteY (y_s _) ?_⟩
      exact ⟨_, rfl, a, _, _, _, rfl, rfl, hs, at1, _, _, rfl, rfl, sum_le hn (by decide +kernel), k⟩
    | fn n =>
      refine ⟨_, rfl, a, _, _, _, rfl, rfl, hs, at0, rfl, _, rfl, iteN n_vf ?_⟩
      refine ⟨_, rfl, a, _, _, _, rfl, rfl, hs, at0, rfl, _, rfl, iteN n_ef ?_⟩
      refine ⟨_, rfl, a, _, _, _, rfl, rfl, hs, at0, rfl, _, rfl, iteN n_mf ?_⟩
      refine ⟨_, rfl, a, _, _, _, rfl, rfl, hs, at0, rfl, _, rfl, iteY (y_s _) ?_⟩
      exact ⟨_, rfl, a, _, _, _, rfl, rfl, hs, at1, _, _, rfl, rfl, sum_le hn (by decide +kernel), k⟩
    | shp => cases hf
end
end K89

set_option Elab.async false
set_option maxRecDepth 100000
set_option linter.all false
set_option maxHeartbeats 40000000
namespace K89
open PySem L2 GD AG LV LamX
section
variable {P : Program} {w : World} {K : PySem.W.Frag} {mg : Str → Option Value} {base : Heap} {A : Adr}
theorem _root_.LamX.ExtN.on {H H1 : Hp} {p : Addr} {o : HO} (s : ExtN H H1) (h : H1 p = none) : ExtN H (upd H1 p o) := s.trans (Sm.ext (Sm.new h))
def spOrd (K : PySem.W.Frag) (PT : Addr) : Sp := fun vs H Q _ => ∃ (x : V) (rs : List Rw), vs = [x] ∧ Rp K H x (.tuple (Rw.ds rs)) ∧ Rw.wfs rs ∧ Srt rs ∧ rs.length ≤ 100 ∧ Tabs (TT PT) H ∧
  ∀ (D : Addr) (ys : List V) (H' : Hp), ExtN H H' → Tabs (TT PT) H' → H' D = some (.lst ys) → RpAll K H' ys (Rw.ds (due rs)) → Q (.ref D) H'
def upto (rs : List Rw) (i : Nat) : List Rw := ((tags.take i).map fun t => fil t rs).flatten
theorem upto_all (rs : List Rw) : upto rs 4 = ordF rs := rfl
theorem upto_succ (rs : List Rw) {i : Nat} {t : Str} (h : tags[i]? = some t) : upto rs (i + 1) = upto rs i ++ fil t rs := by
  unfold upto
  rw [List.take_add_one, h]
  simp
theorem upto_len (rs : List Rw) (i : Nat) : (upto rs i).length ≤ 4 * rs.length := by
  have h1 : ∀ ts : List Str, ((ts.map fun t => fil t rs).flatten).length ≤ ts.length * rs.length := by
    intro ts
    induction ts with
    | nil => simp
    | cons t ts ih =>
      simp only [List.map_cons, List.flatten_cons, List.length_append, List.length_cons]
      have : (fil t rs).length ≤ rs.length := List.length_filter_le _ _
      rw [Nat.add_mul]
      omega
  unfold upto
  refine Nat.le_trans (h1 _) (Nat.mul_le_mul_right _ ?_)
  rw [List.length_take]
  exact Nat.min_le_right _ _ |> fun h => Nat.le_trans h (by decide)
theorem fil_take {rs : List Rw} {i : Nat} {r : Rw} (t : Str) (h : rs[i]? = some r) : fil t (rs.take (i + 1)) = fil t (rs.take i) ++ (if r.tag = t then [r] else []) := by
  unfold fil
  rw [List.take_add_one, h, List.filter_append]
  congr 1
  by_cases e : r.tag = t <;> simp [e]
theorem ds_app (a b : List Rw) : Rw.ds (a ++ b) = Rw.ds a ++ Rw.ds b := by rw [rds_map, List.map_append, ← rds_map, ← rds_map]
def tagV : List V := [.str "val", .str "exn", .str "module", .str "functor"]
theorem ok_ord (T : Txt K mg A) {cc PT : Addr} (TB : TabB base mg cc PT) (hcd : A.d_ordered_fields.code = .ref cc) : FnOk P w K mg base CX0 7 A.f_ordered_fields A.d_ordered_fields ["level"] (spOrd K PT) := by
  refine Fun.okC (k := 6) T.F_ordered_fields hcd sc_ordered_fields (fun vs H Q E h => ?_) (fun Ar outer s H vs Q E hr h => ?_)
  · obtain ⟨x, rs, rfl, _⟩ := h
    rfl
  · obtain ⟨x, rs, rfl, hx, hw, hsrt, hlen, hT, k⟩ := h
    refine ⟨_, (pss_cons (ps_set (i := 1) sc_ordered_fields.nd rfl (Or.inl rfl) (pe_lst pa_nil)) (pss_cons (ps_for PassesOwn.never rfl (pi_tup (pe_tup (pa_cons pe_str (pa_cons pe_str (pa_cons pe_str (pa_cons pe_str pa_nil)))))) (pg_name (i := 2) sc_ordered_fields.nd rfl (Or.inr rfl)) (pss_cons (ps_setLc (i := 3) (own := [("entry", 4)]) (g := gName 4) rfl sc_ordered_fields.nd rfl rfl (sw_true rfl rfl rfl (by decide +kernel)) (pi_tup (pv 0)) (blkOk_by (N := N_ordered_fields) (sc := defScope s_ordered_fields) (by decide +kernel)) (fun _ _ _ _ _ => (pg_name (i := 4) sc_ordered_fields.nd rfl (Or.inl rfl))) (fun _ _ _ _ _ => (pts_one (pt_cmpR op_eq (pe_ix (ixt (K := K) rfl) (pv 4) pe_int (fun _ _ => rfl)) (pv 2) (nomark _)))) (fun _ _ _ _ _ => (pv 4))) (pss_one (ps_set (i := 1) sc_ordered_fields.nd rfl (Or.inl rfl) (pe_op op_cat (pv 1) (KSt.pe_sortKey (c := cc) (P := PT) (T := TT PT) (k := 0) rfl T.n_sorted (pa_cons (pv 3) pa_nil) TB rfl (List.mem_singleton.mpr rfl) (fun q hq _ => by rw [List.mem_singleton.mp hq]; rfl) (hr.mono (by first | decide | omega)) rfl rfl rfl rfl rfl rfl (fun _ _ _ _ _ => rfl))))))) (pss_one (ps_ret (pv 1))))), ?_⟩
    obtain ⟨a, xs, rfl, hs, hxs⟩ := hx.tup_inv
    have hxl : xs.length = rs.length := by rw [hxs.length, rds_len]
    refine ⟨Nat.zero_le _, fun F0 hF0 => ?_⟩
    have e0 : ExtN H (upd H F0 (.lst [])) := (ExtN.refl H).on hF0
    have o_F0 : (upd H F0 (.lst [])) F0 = some (.lst []) := upd_same
    replace hT : Tabs (TT PT) (upd H F0 (.lst [])) := hT.ext (Sm.new hF0)
    generalize (upd H F0 (.lst [])) = H1 at e0 o_F0 hT ⊢
    refine ⟨(show 4 ≤ sizeLine by decide), fun t ht => ?_⟩
    have s1 : Sm H1 (upd H1 t (.tup tagV)) := Sm.new ht
    have o_t : (upd H1 t (.tup tagV)) t = some (.tup tagV) := upd_same
    show ∃ a_1, _
    replace e0 : ExtN H (upd H1 t (.tup tagV)) := e0.trans (Sm.ext s1)
    replace o_F0 := s1 _ _ o_F0
    replace hT : Tabs (TT PT) (upd H1 t (.tup tagV)) := hT.ext s1
    refine ⟨t, rfl, ⟨tagV, .inl (Rd.of o_t)⟩, for_tup (xs := tagV) (fun i σ' H' => ∃ (F : Addr) (acc : List V) (v2 v3 : Option V), σ' = [some (.ref a), some (.ref F), v2, v3, none] ∧ ExtN (upd H1 t (.tup tagV)) H' ∧ Tabs (TT PT) H' ∧ H' F = some (.lst acc) ∧ RpAll K H' acc (Rw.ds (upto rs i))) ?_ ?_ ?_ ?_⟩
    · exact ⟨F0, [], none, none, rfl, ExtN.refl _, hT, o_F0, .nil⟩
    · rintro i σ' H' _ ⟨F, acc, v2, v3, rfl, e1, _⟩
      exact .inl (Rd.of (e1 _ _ o_t fun _ z => by cases z))
    · rintro i y σ' H' hy ⟨F, acc, v2, v3, rfl, e1, hT1, hacc, hra⟩
      have htg : ∃ tg : Str, tags[i]? = some tg ∧ y = .str tg ∧ tg ∈ tags := by
        match i, hy with
        | 0, e => simp [tagV] at e; subst e; exact ⟨_, rfl, rfl, by decide +kernel⟩
        | 1, e => simp [tagV] at e; subst e; exact ⟨_, rfl, rfl, by decide +kernel⟩
        | 2, e => simp [tagV] at e; subst e; exact ⟨_, rfl, rfl, by decide +kernel⟩
        | 3, e => simp [tagV] at e; subst e; exact ⟨_, rfl, rfl, by decide +kernel⟩
        | i + 4, e => simp [tagV] at e
      obtain ⟨tg, etg, rfl, mtg⟩ := htg
      have kt1 : KT H H' := (e0.trans e1).kt
      have hs1 := kt1.sqt hs
      have hxs1 := hxs.on kt1
      refine ⟨_, rfl, a, rfl, ⟨_, hs1⟩, fun D hD => ?_⟩
      refine lc_tup (xs := xs) (fun j H2 => Sm H' H2 ∧ ∃ ac2 : List V, H2 D = some (.lst ac2) ∧ ac2.length ≤ j ∧ RpAll K H2 ac2 (Rw.ds (fil tg (rs.take j)))) ?_ ?_ ?_ ?_
      · exact ⟨Sm.new hD, [], upd_same, Nat.zero_le _, by simp only [List.take_zero, fil, List.filter_nil, Rw.ds]; exact .nil⟩
      · rintro j H2 _ ⟨s2, _⟩
        exact (KT.same s2).sqt hs1
      · rintro j z H2 hz ⟨s2, ac2, h2, hl2, hr2⟩
        have hj : j < rs.length := by
          have := (List.getElem?_eq_some_iff.mp hz).1
          omega
        have ee : rs[j]? = some rs[j] := List.getElem?_eq_getElem hj
        have ed : (Rw.ds rs)[j]? = some (rs[j]).d := by rw [rds_map, List.getElem?_map, ee]; rfl
        obtain ⟨z', ez, rz⟩ := hxs1.get ed
        rw [hz] at ez
        cases ez
        have rz1 := rz.on (KT.same s2)
        have et := fil_take tg ee
        rw [et]
        generalize rs[j] = r at rz1
        obtain ⟨b, y1, ws, rfl, hb, _⟩ := inv_rw r rz1
        refine ⟨rfl, ?_⟩
        refine ⟨_, rfl, b, _, _, _, rfl, rfl, hb, at0, _, rfl, rfl, _, rfl, ?_⟩
        rw [dec_s]
        by_cases c : r.tag = tg
        · rw [decide_eq_true c, if_pos c]
          refine iteT (B := _) ?_
          have kt : KT H2 (upd H2 D (.lst (ac2 ++ [.ref b]))) := KT.upd_lst (NT.lst h2)
          refine ⟨_, rfl, ac2, h2, small_lt (by omega), s2.upd hD, _, upd_same, by simp; omega, ?_⟩
          rw [ds_app]
          exact RpAll.app (hr2.on kt) (.cons (rz1.on kt) .nil)
        · rw [decide_eq_false c, if_neg c, List.append_nil]
          exact iteF (A := _) ⟨s2, ac2, h2, by omega, hr2⟩
      · rintro H2 ⟨s2, ac2, h2, hl2, hr2⟩
        rw [List.take_of_length_le (by omega)] at hr2
        -- sorted
        refine ⟨_, rfl, _, rfl, D, ac2, (fil tg rs).map Rw.name, rfl, SqL.of h2, by rw [hr2.length, rds_len, List.length_map], fun j z hz => ?_, hT1.ext s2, fun H3 e3 hT3 ps p hperm hsrt2 hp => ?_⟩
        · obtain ⟨d, ed, rz⟩ := hr2.getV hz
          rw [rds_map, List.getElem?_map] at ed
          cases er : (fil tg rs)[j]? with
          | none => rw [er] at ed; cases ed
          | some r =>
            rw [er] at ed
            cases ed
            obtain ⟨b, y1, ws, rfl, hb, _⟩ := inv_rw r rz
            exact ⟨b, _, r.name, rfl, hb, rfl, by rw [List.getElem?_map, er]; rfl⟩
        · have hsame := KSt.sorted_same hperm (by rw [hr2.length, rds_len, List.length_map]) hsrt2 (hsrt.1 tg mtg)
          rw [hsame]
          have s23 : ExtN H' H3 := (Sm.ext s2).trans e3
          have h2' : H3 D = some (.lst ac2) := e3 _ _ h2 fun _ z => by cases z
          have hacc3 : H3 F = some (.lst acc) := s23 _ _ hacc fun _ z => by cases z
          have sp : Sm H3 (upd H3 p (.lst ac2)) := Sm.new hp
          have l1 : acc.length ≤ 400 := by rw [hra.length, rds_len]; have := upto_len rs i; omega
          have l2 : ac2.length ≤ 100 := by rw [hr2.length, rds_len]; have : (fil tg rs).length ≤ rs.length := List.length_filter_le _ _; omega
          have ktp : KT H' (upd H3 p (.lst ac2)) := s23.kt.trans (KT.same sp)
          refine ⟨F, p, _, _, rfl, rfl, sp _ _ hacc3, upd_same, small_le (by omega), fun G hG => ?_⟩
          have sG : Sm (upd H3 p (.lst ac2)) (upd (upd H3 p (.lst ac2)) G (.lst (acc ++ ac2))) := Sm.new hG
          refine ⟨G, _, _, _, rfl, e1.trans (s23.trans ((Sm.ext sp).trans (Sm.ext sG))), (hT3.ext sp).ext sG, upd_same, ?_⟩
          rw [upto_succ rs etg, ds_app]
          have ktA : KT H2 (upd H3 p (.lst ac2)) := e3.kt.trans (KT.same sp)
          exact RpAll.app ((hra.on ktp).on (KT.same sG)) ((hr2.on ktA).on (KT.same sG))
    · rintro σ' H' ⟨F, acc, v2, v3, rfl, e1, hT1, hacc, hra⟩
      have hra2 : RpAll K H' acc (Rw.ds (due rs)) := by
        rw [← hsrt.2.1]
        exact hra
      exact ⟨_, rfl, k F acc H' (e0.trans e1) hT1 hacc hra2⟩
end
end K89

set_option Elab.async false
set_option maxRecDepth 100000
set_option linter.all false
set_option maxHeartbeats 40000000
set_option pp.maxSteps 400
namespace K89
open PySem L2 GD AG LV LamX
section
variable {P : Program} {w : World} {K : PySem.W.Frag} {mg : Str → Option Value} {base : Heap} {A : Adr}
/-! ### lists of texts compared -/
def strL (l : List Str) : PyData := .list (l.map PyData.str)
theorem strL_lay {l : List Str} (h : ∀ x ∈ l, PyData.strOk x = true) : (strL l).canLay0 = true := by
  have : ∀ l : List Str, (∀ x ∈ l, PyData.strOk x = true) → PyData.canLayAll0 (l.map PyData.str) = true := by
    intro l
    induction l with
    | nil => intro _; simp [PyData.canLayAll0]
    | cons x l ih =>
      intro h
      simp only [List.map_cons, PyData.canLayAll0, PyData.canLay0, Bool.and_eq_true]
      exact ⟨h x List.mem_cons_self, ih fun y hy => h y (List.mem_cons_of_mem _ hy)⟩
  simpa [strL, PyData.canLay0] using this l h
theorem strL_dep (l : List Str) : (strL l).depth ≤ 64 := by
  have : ∀ l : List Str, PyData.depthAll (l.map PyData.str) ≤ 1 := by
    intro l
    induction l with
    | nil => simp [PyData.depthAll]
    | cons x l ih =>
      simp only [List.map_cons, PyData.depthAll, PyData.depth]
      omega
  have := this l
  simp only [strL, PyData.depth]
  omega
theorem strL_shaped {l : List Str} (h : ∀ x ∈ l, PyData.strOk x = true) : SeqAt.shaped (strL l) = true := by
  unfold SeqAt.shaped
  rw [strL_lay h, Bool.true_and]
  exact decide_eq_true (strL_dep l)
theorem strL_eqv : ∀ a b : List Str, PyData.eqv (strL a) (strL b) = decide (a = b) := by
  have key : ∀ a b : List Str, PyData.eqvAll (a.map PyData.str) (b.map PyData.str) = decide (a = b) := by
    intro a
    induction a with
    | nil => intro b; cases b <;> simp [PyData.eqvAll]
    | cons x a ih =>
      intro b
      cases b with
      | nil => simp [PyData.eqvAll]
      | cons y b =>
        simp only [List.map_cons, PyData.eqvAll, PyData.eqv, ih b]
        by_cases h : x = y
        · subst h
          by_cases h2 : a = b <;> simp [h2]
        · simp [h]
  intro a b
  simp only [strL, PyData.eqv]
  exact key a b
theorem strL_dp {H : Hp} {a : Addr} {l : List Str} (h : SqL K H a (l.map V.str)) : Dp K H (.ref a) (strL l) := by
  refine .lst h ?_
  clear h
  induction l with
  | nil => exact .nil
  | cons x l ih => exact .cons (.str x) ih
/-! ### a field, a level -/
def spFld (K : PySem.W.Frag) (PT : Addr) (n : Nat) : Sp := fun vs H Q _ => ∃ (ex x y sx : V) (d : Int) (N : List Rw) (r : Rw) (f : Fv), vs = [ex, x, y, sx, .int d] ∧ d ≤ 60 ∧ Rw.deps N ≤ 3 ∧ Rp K H ex (.tuple (Ent.ds (namesE N))) ∧ Rp K H sx (.tuple []) ∧
  Rp K H x r.d ∧ r.wf ∧ r.isF = true ∧ r.dep ≤ n ∧ Rp K H y f.d ∧ f.ok ∧ Tabs (TT PT) H ∧ ∀ H', ExtN H H' → Tabs (TT PT) H' → Q (.bl (r.agr d.toNat f)) H'
def spLvl (K : PySem.W.Frag) (PT : Addr) (n : Nat) : Sp := fun vs H Q _ => ∃ (ex x y sx : V) (d : Int) (N : List Rw) (rs : List Rw) (f : Fv), vs = [ex, x, y, sx, .int d] ∧ d ≤ 60 ∧ Rw.deps N ≤ 3 ∧ Rp K H ex (.tuple (Ent.ds (namesE N))) ∧ Rp K H sx (.tuple []) ∧
  Rp K H x (.tuple (Rw.ds rs)) ∧ Rw.wfs rs ∧ Srt rs ∧ rs.length ≤ 100 ∧ Rw.deps rs ≤ n ∧ Rp K H y f.d ∧ f.ok ∧ Tabs (TT PT) H ∧ ∀ H', ExtN H H' → Tabs (TT PT) H' → Q (.bl (lvA d.toNat rs f)) H'
def spLvlR (K : PySem.W.Frag) (PT : Addr) : Nat → Sp
  | 0 => fun _ _ _ _ => False
  | n + 1 => spLvl K PT n
theorem tag_of (f : Fv) (h : f.ok) : (f.vl.tag = "exn" → ∃ i m, f = .exn i m) ∧ (f.vl.tag = "record" → ∃ fs, f = .rcd fs) := by
  cases f with
  | lf v =>
    simp only [Fv.ok] at h
    exact ⟨fun e => absurd e h.2.1, fun e => absurd e h.2.2⟩
  | exn i m => exact ⟨fun _ => ⟨i, m, rfl⟩, fun e => absurd e (show ("exn" : Str) ≠ "record" by decide +kernel)⟩
  | rcd fs => exact ⟨fun e => absurd e (show ("record" : Str) ≠ "exn" by decide +kernel), fun _ => ⟨fs, rfl⟩⟩
theorem inv_fv {H : Hp} {y : V} (f : Fv) (h : Rp K H y f.d) : ∃ a ws, y = .ref a ∧ SqT K H a (.str f.vl.tag :: ws) := inv_tag f.vl (by rw [Fv.vl_d]; exact h)
theorem inv_exn {H : Hp} {y : V} {i : Int} {m : Str} (h : Rp K H y (Fv.exn i m).d) : ∃ a, y = .ref a ∧ SqT K H a [.str "exn", .int i, .str m] := by
  simp only [Fv.d] at h
  obtain ⟨a, xs, rfl, s, r0⟩ := h.tup_inv
  obtain ⟨v1, w1, rfl, h1, r1⟩ := r0.cons_inv
  obtain ⟨v2, w2, rfl, h2, r2⟩ := r1.cons_inv
  obtain ⟨v3, w3, rfl, h3, r3⟩ := r2.cons_inv
  have er := r3.nil_inv
  rw [h1.str_inv, h2.int_inv, h3.str_inv, er] at s
  exact ⟨a, rfl, s⟩
theorem inv_rcd {H : Hp} {y : V} {fs : List (Str × Fv)} (h : Rp K H y (Fv.rcd fs).d) : ∃ a g gs, y = .ref a ∧ SqT K H a [.str "record", .ref g] ∧ SqT K H g gs ∧ RpAll K H gs (Fv.ds fs) := by
  simp only [Fv.d] at h
  obtain ⟨a, xs, rfl, s, r0⟩ := h.tup_inv
  obtain ⟨v1, w1, rfl, h1, r1⟩ := r0.cons_inv
  obtain ⟨v2, w2, rfl, h2, r2⟩ := r1.cons_inv
  obtain ⟨g, gs, rfl, sg, rg⟩ := h2.tup_inv
  have er := r2.nil_inv
  rw [h1.str_inv, er] at s
  exact ⟨a, g, gs, rfl, s, sg, rg⟩
theorem inv_fld {H : Hp} {y : V} {p : Str × Fv} (h : Rp K H y (fld p)) : ∃ a v, y = .ref a ∧ SqT K H a [.str p.1, v] ∧ Rp K H v p.2.d ∧ PyData.strOk p.1 = true := by
  unfold fld at h
  obtain ⟨a, xs, rfl, s, r0⟩ := h.tup_inv
  obtain ⟨v1, w1, rfl, h1, r1⟩ := r0.cons_inv
  obtain ⟨v2, w2, rfl, h2, r2⟩ := r1.cons_inv
  have er := r2.nil_inv
  have h1' := h1
  rw [h1.str_inv, er] at s
  refine ⟨a, v2, rfl, s, h2, ?_⟩
  cases h1' with
  | str _ hx => exact hx
theorem fld_step (T : Txt K mg A) {PT : Addr} (n : Nat) (G_agrees_with_level : FnOk P w K mg base CX0 (2 * n + 192) A.f_agrees_with_level A.d_agrees_with_level ["entries", "level", "value", "store", "depth"] (spLvlR K PT n)) :
    FnOk P w K mg base CX0 (2 * n + 193) A.f_agrees_with_field A.d_agrees_with_field ["entries", "entry", "value", "store", "depth"] (spFld K PT n) := by
  have G_agrees : FnOk P w K mg base CX0 192 A.f_agrees A.d_agrees _ _ := ok_agr T 60
  refine T.F_agrees_with_field.ok (k := 2 * n + 192) sc_agrees_with_field (fun vs H Q E h => ?_) (fun cdv Ar outer s H vs Q E hr h => ?_)
  · obtain ⟨ex, x, y, sx, d, N, r, f, rfl, _⟩ := h
    rfl
  · obtain ⟨ex, x, y, sx, d, N, r, f, rfl, hd, hN, hex, hsx, hx, hw, hf, hdep, hy, hfo, hT, k⟩ := h
    refine ⟨_, (pss_cons (ps_if (pt_cmpR op_eq (pe_ix (ixt (K := K) rfl) (pv 1) pe_int (fun _ _ => rfl)) pe_str (nomark _)) (pss_one (ps_ret (pe_call G_agrees (hr.mono (by first | decide | omega)) rfl T.g_agrees T.F_agrees.kp T.b_agrees .nil pass0 (pa_cons (pv 0) (pa_cons (pe_ix (ixt (K := K) rfl) (pe_ix (ixt (K := K) rfl) (pv 1) pe_int (fun _ _ => rfl)) pe_int (fun _ _ => rfl)) (pa_cons (pv 2) (pa_cons (pv 3) (pa_cons (pv 4) pa_nil)))))))) pss_nil) (pss_cons (ps_if (pt_cmpR op_eq (pe_ix (ixt (K := K) rfl) (pv 1) pe_int (fun _ _ => rfl)) pe_str (nomark _)) (pss_one (ps_ret (pe_and (pe_cmpR op_eq (pe_ix (ixt (K := K) rfl) (pv 2) pe_int (fun _ _ => rfl)) pe_str (nomark _)) (pe_one (pe_cmpR op_eq (pe_ix (ixt (K := K) rfl) (pv 2) pe_int (fun _ _ => rfl)) (pe_ix (ixt (K := K) rfl) (pv 1) pe_int (fun _ _ => rfl)) (nomark _)))))) pss_nil) (pss_cons (ps_if (pt_cmpR op_eq (pe_ix (ixt (K := K) rfl) (pv 1) pe_int (fun _ _ => rfl)) pe_str (nomark _)) (pss_one (ps_ret (pe_call G_agrees_with_level (hr.mono (by first | decide | omega)) rfl T.g_agrees_with_level T.F_agrees_with_level.kp T.b_agrees_with_level .nil pass0 (pa_cons (pv 0) (pa_cons (pe_ix (ixt (K := K) rfl) (pv 1) pe_int (fun _ _ => rfl)) (pa_cons (pv 2) (pa_cons (pv 3) (pa_cons (pv 4) pa_nil)))))))) pss_nil) (pss_one (ps_ret (pe_cmpR op_eq (pe_ix (ixt (K := K) rfl) (pv 2) pe_int (fun _ _ => rfl)) pe_str (nomark _))))))), ?_⟩
    obtain ⟨a, y1, ws, rfl, hs, hval, hmod⟩ := inv_rw r hx
    obtain ⟨b, us, rfl, hb⟩ := inv_fv f hy
    have done : ∀ {z : Bool} {H' : Hp}, Sm H H' → r.agr d.toNat f = z → Q (.bl z) H' := fun {z H'} s e => by rw [← e]; exact k H' (Sm.ext s) (hT.ext s)
    cases r with
    | val nm k0 =>
      obtain ⟨p, rfl, z, sv, hp, hsv⟩ := hval nm k0 rfl
      refine ⟨_, rfl, a, _, _, _, rfl, rfl, hs, at0, rfl, _, rfl, iteY (y_s _) ?_⟩
      refine ⟨_, rfl, _, rfl, a, _, _, _, rfl, rfl, hs, at2, p, _, _, _, rfl, rfl, hp, at1, _, rfl, _, rfl, _, rfl, ar9, ex, sv, .ref b, sx, d, namesE N, [], shpOf k0, f.vl, rfl, by omega, ⟨names_env N hN, hex, by simpa [Vl.ds] using hsx⟩, hsv, shp_fit k0, by rw [Fv.vl_d]; exact hy, ?_, fun H' s' => done s' ?_⟩
      · cases f with
        | lf v => simp only [Fv.ok] at hfo; exact hfo.1
        | exn i m => simp only [Fv.vl, Vl.oka]; decide +kernel
        | rcd fs => simp only [Fv.vl, Vl.oka]; decide +kernel
      · rw [rows_names]
        rfl
    | exn nm a0 i0 =>
      refine ⟨_, rfl, a, _, _, _, rfl, rfl, hs, at0, rfl, _, rfl, iteN n_ve ?_⟩
      refine ⟨_, rfl, a, _, _, _, rfl, rfl, hs, at0, rfl, _, rfl, iteY (y_s _) ?_⟩
      refine ⟨_, rfl, b, _, _, _, rfl, rfl, hb, at0, rfl, _, rfl, ?_⟩
      rw [dec_s]
      by_cases ht : f.vl.tag = "exn"
      · obtain ⟨i, m, rfl⟩ := (tag_of f hfo).1 ht
        obtain ⟨b', eb, hb'⟩ := inv_exn hy
        cases eb
        rw [decide_eq_true ht]
        refine iteT (B := _) ⟨_, rfl, b, _, _, _, rfl, rfl, hb', at2, _, rfl, a, _, _, _, rfl, rfl, hs, at1, rfl, ?_⟩
        exact done Sm.refl (by rw [dec_s]; rfl)
      · rw [decide_eq_false ht]
        refine iteF (A := _) (done Sm.refl ?_)
        cases f with
        | exn i m => exact absurd rfl ht
        | lf v => rfl
        | rcd fs => rfl
    | mod nm rs =>
      simp only [Rw.wf] at hw
      simp only [Rw.dep] at hdep
      obtain ⟨n, rfl⟩ : ∃ j, n = j + 1 := ⟨n - 1, by omega⟩
      refine ⟨_, rfl, a, _, _, _, rfl, rfl, hs, at0, rfl, _, rfl, iteN n_vm ?_⟩
      refine ⟨_, rfl, a, _, _, _, rfl, rfl, hs, at0, rfl, _, rfl, iteN n_em ?_⟩
      refine ⟨_, rfl, a, _, _, _, rfl, rfl, hs, at0, rfl, _, rfl, iteY (y_s _) ?_⟩
      exact ⟨_, rfl, _, rfl, a, _, _, _, rfl, rfl, hs, at2, _, rfl, _, rfl, _, rfl, ex, y1, .ref b, sx, d, N, rs, f, rfl, hd, hN, hex, hsx, hmod nm rs rfl, hw.2.1, hw.2.2.1, hw.2.2.2, by omega, hy, hfo, hT, k⟩
    | fn nm =>
      refine ⟨_, rfl, a, _, _, _, rfl, rfl, hs, at0, rfl, _, rfl, iteN n_vf ?_⟩
      refine ⟨_, rfl, a, _, _, _, rfl, rfl, hs, at0, rfl, _, rfl, iteN n_ef ?_⟩
      refine ⟨_, rfl, a, _, _, _, rfl, rfl, hs, at0, rfl, _, rfl, iteN n_mf ?_⟩
      refine ⟨_, rfl, b, _, _, _, rfl, rfl, hb, at0, rfl, ?_⟩
      exact done Sm.refl (by rw [dec_s]; rfl)
    | shp => cases hf
end
end K89

set_option Elab.async false
set_option maxRecDepth 100000
set_option linter.all false
set_option maxHeartbeats 40000000
set_option pp.maxSteps 400
namespace K89
open PySem L2 GD AG LV LamX
section
variable {P : Program} {w : World} {K : PySem.W.Frag} {mg : Str → Option Value} {base : Heap} {A : Adr}
theorem label_ok {r : Rw} (h : r.wf) (hf : r.isF = true) : PyData.strOk r.label = true := by
  have hn := allN_ok (name_mem h hf)
  cases r with
  | val n k => exact strOk_app (by decide +kernel) hn
  | exn n b i => exact strOk_app (by decide +kernel) hn
  | fn n => exact strOk_app (by decide +kernel) hn
  | mod n rs => exact strOk_app (by decide +kernel) hn
  | shp => cases hf
theorem zipF_all {d : Nat} : ∀ {rs : List Rw} {fs : List (Str × Fv)}, rs.length = fs.length → (∀ (i : Nat) (r : Rw) (p : Str × Fv), rs[i]? = some r → fs[i]? = some p → r.agr d p.2 = true) → zipF d rs fs = true
  | [], [], _, _ => rfl
  | [], _ :: _, h, _ => by simp at h
  | _ :: _, [], h, _ => by simp at h
  | r :: rs, (l, f) :: q, h, k => by
    simp only [zipF, Bool.and_eq_true]
    exact ⟨k 0 r (l, f) rfl rfl, zipF_all (by simpa using h) fun i r' p' e1 e2 => k (i + 1) r' p' (by simpa using e1) (by simpa using e2)⟩
theorem due_mem {rs : List Rw} {r : Rw} (h : r ∈ due rs) : r ∈ rs ∧ r.isF = true := List.mem_filter.mp h
theorem due_len (rs : List Rw) : (due rs).length ≤ rs.length := List.length_filter_le _ _
theorem lvl_step (T : Txt K mg A) {cc PT : Addr} (TB : TabB base mg cc PT) (hcd : A.d_ordered_fields.code = .ref cc) (n : Nat)
    (G_agrees_with_field : FnOk P w K mg base CX0 (2 * n + 193) A.f_agrees_with_field A.d_agrees_with_field ["entries", "entry", "value", "store", "depth"] (spFld K PT n)) :
    FnOk P w K mg base CX0 (2 * n + 194) A.f_agrees_with_level A.d_agrees_with_level ["entries", "level", "value", "store", "depth"] (spLvl K PT n) := by
  have G_label_of : FnOk P w K mg base CX0 1 A.f_label_of A.d_label_of _ _ := ok_label T
  have G_ordered_fields : FnOk P w K mg base CX0 7 A.f_ordered_fields A.d_ordered_fields _ _ := ok_ord T TB hcd
  refine T.F_agrees_with_level.ok (k := 2 * n + 193) sc_agrees_with_level (fun vs H Q E h => ?_) (fun cdv Ar outer s H vs Q E hr h => ?_)
  · obtain ⟨ex, x, y, sx, d, N, rs, f, rfl, _⟩ := h
    rfl
  · obtain ⟨ex, x, y, sx, d, N, rs, f, rfl, hd, hN, hex, hsx, hx, hw, hsrt, hlen, hdep, hy, hfo, hT, k⟩ := h
    refine ⟨_, (pss_cons (ps_if (pt_cmpR op_ne (pe_ix (ixt (K := K) rfl) (pv 2) pe_int (fun _ _ => rfl)) pe_str (nomark _)) (pss_one (ps_ret pe_bl)) pss_nil) (pss_cons (ps_set (i := 5) sc_agrees_with_level.nd rfl (Or.inl rfl) (pe_call G_ordered_fields (hr.mono (by first | decide | omega)) rfl T.g_ordered_fields T.F_ordered_fields.kp T.b_ordered_fields .nil pass0 (pa_cons (pv 1) pa_nil))) (pss_cons (ps_if (pt_cmpR (op_neD hr.units) (pe_lc (own := [("entry", 6)]) (g := gName 6) (tt := tYes) rfl sc_agrees_with_level.nd (pi_list (pv 5)) (blkOk_by (N := N_agrees_with_level) (sc := defScope s_agrees_with_level) (by decide +kernel)) (fun _ _ _ _ _ => (pg_name (i := 6) sc_agrees_with_level.nd rfl (Or.inl rfl))) (fun _ _ _ _ _ => pts_nil) (fun _ _ _ _ _ => (pe_call G_label_of (hr.mono (by first | decide | omega)) rfl T.g_label_of T.F_label_of.kp T.b_label_of .nil pass0 (pa_cons (pv 6) pa_nil)))) (pe_lc (own := [("field", 7)]) (g := gName 7) (tt := tYes) rfl sc_agrees_with_level.nd (pi_tup (pe_ix (ixt (K := K) rfl) (pv 2) pe_int (fun _ _ => rfl))) (blkOk_by (N := N_agrees_with_level) (sc := defScope s_agrees_with_level) (by decide +kernel)) (fun _ _ _ _ _ => (pg_name (i := 7) sc_agrees_with_level.nd rfl (Or.inl rfl))) (fun _ _ _ _ _ => pts_nil) (fun _ _ _ _ _ => (pe_ix (ixt (K := K) rfl) (pv 7) pe_int (fun _ _ => rfl)))) (nomark _)) (pss_one (ps_ret pe_bl)) pss_nil) (pss_cons (ps_for PassesOwn.never rfl (ZM.pi_zipM (by rfl) T.n_zip (pa_cons (pv 5) (pa_cons (pe_ix (ixt (K := K) rfl) (pv 2) pe_int (fun _ _ => rfl)) pa_nil))) (pg_tup rfl (pgs_cons (pg_name (i := 6) sc_agrees_with_level.nd rfl (Or.inl rfl)) (pgs_cons (pg_name (i := 7) sc_agrees_with_level.nd rfl (Or.inl rfl)) pgs_nil))) (pss_one (ps_if (pt_not (pt_val (pe_call G_agrees_with_field (hr.mono (by first | decide | omega)) rfl T.g_agrees_with_field T.F_agrees_with_field.kp T.b_agrees_with_field .nil pass0 (pa_cons (pv 0) (pa_cons (pv 6) (pa_cons (pe_ix (ixt (K := K) rfl) (pv 7) pe_int (fun _ _ => rfl)) (pa_cons (pv 3) (pa_cons (pv 4) pa_nil)))))) (by intro _; rfl))) (pss_one (ps_ret pe_bl)) pss_nil))) (pss_one (ps_ret pe_bl)))))), ?_⟩
    obtain ⟨b, us, rfl, hb⟩ := inv_fv f hy
    refine ⟨_, rfl, b, _, _, _, rfl, rfl, hb, at0, rfl, _, rfl, ?_⟩
    rw [dec_s]
    by_cases ht : f.vl.tag = "record"
    · obtain ⟨fs, rfl⟩ := (tag_of f hfo).2 ht
      rw [decide_eq_true ht]
      refine iteF (A := _) ?_
      obtain ⟨b', g, gs, eb, hb', hg, hgs⟩ := inv_rcd hy
      cases eb
      have hgl : gs.length = fs.length := by rw [hgs.length, fds_len]
      simp only [Fv.ok] at hfo
      refine ⟨_, rfl, x, rs, rfl, hx, hw, hsrt, hlen, hT, fun F ys H1 e1 hT1 hF hys => ?_⟩
      have kt1 := e1.kt
      replace hb' := kt1.sqt hb'
      replace hg := kt1.sqt hg
      replace hgs := hgs.on kt1
      replace hex := hex.on kt1
      replace hsx := hsx.on kt1
      have hyl : ys.length = (due rs).length := by rw [hys.length, rds_len]
      have hdl : (due rs).length ≤ 100 := Nat.le_trans (due_len rs) hlen
      have done : ∀ {z : Bool} {H' : Hp}, ExtN H1 H' → Tabs (TT PT) H' → Rw.goA d.toNat rs fs = z → Q (.bl z) H' := fun {z H'} s t e => by rw [← e]; exact k H' (e1.trans s) t
      clear hb hx
      -- the labels that are due
      refine ⟨_, rfl, F, rfl, ⟨_, SqL.of hF⟩, fun D hD => ?_⟩
      refine lc_list (xs := ys) (fun i H' => Sm H1 H' ∧ H' D = some (.lst (((due rs).take i).map fun r => V.str r.label))) ?_ ?_ ?_ ?_
      · exact ⟨Sm.new hD, upd_same⟩
      · rintro i H' _ ⟨s2, _⟩
        exact SqL.of (s2 _ _ hF)
      · rintro i z H' hz ⟨s2, hacc⟩
        have hi : i < (due rs).length := by
          have := (List.getElem?_eq_some_iff.mp hz).1
          omega
        have ee : (due rs)[i]? = some (due rs)[i] := List.getElem?_eq_getElem hi
        obtain ⟨z', ez, rz⟩ := hys.get (show (Rw.ds (due rs))[i]? = some ((due rs)[i]).d by rw [rds_map, List.getElem?_map, ee]; rfl)
        rw [hz] at ez
        cases ez
        obtain ⟨m1, m2⟩ := due_mem (List.getElem_mem hi)
        refine ⟨rfl, tYes_do ?_⟩
        refine ⟨_, rfl, z, _, rfl, rz.on (KT.same s2), wfs_mem hw m1, m2, _, hacc, small_lt (by rw [List.length_map, List.length_take]; omega), s2.upd hD, ?_⟩
        rw [upd_same, List.take_add_one, ee, List.map_append]
        rfl
      · rintro H2 ⟨s2, hD2⟩
        rw [List.take_of_length_le (by omega)] at hD2
        have hF2 := s2 _ _ hF
        have kt2 := KT.same s2
        replace hb' := kt2.sqt hb'
        replace hg := kt2.sqt hg
        replace hgs := hgs.on kt2
        replace hex := hex.on kt2
        replace hsx := hsx.on kt2
        replace hys := hys.on kt2
        have hT2 := hT1.ext s2
        -- the labels that are there
        refine ⟨_, rfl, b, _, _, _, rfl, rfl, hb', at1, _, rfl, ?_⟩
        refine ⟨_, hg⟩ |> fun q => ⟨q, fun D2 hD2n => ?_⟩
        refine lc_tup (xs := gs) (fun i H' => Sm H2 H' ∧ H' D2 = some (.lst ((fs.take i).map fun p => V.str p.1))) ?_ ?_ ?_ ?_
        · exact ⟨Sm.new hD2n, upd_same⟩
        · rintro i H' _ ⟨s3, _⟩
          exact (KT.same s3).sqt hg
        · rintro i z H' hz ⟨s3, hacc⟩
          have hi : i < fs.length := by
            have := (List.getElem?_eq_some_iff.mp hz).1
            omega
          have ee : fs[i]? = some fs[i] := List.getElem?_eq_getElem hi
          obtain ⟨z', ez, rz⟩ := hgs.get (show (Fv.ds fs)[i]? = some (fld fs[i]) by rw [fds_map, List.getElem?_map, ee]; rfl)
          rw [hz] at ez
          cases ez
          obtain ⟨c, v, rfl, hc, _, _⟩ := inv_fld (rz.on (KT.same s3))
          have hfl : fs.length ≤ 1000 := hfo.1
          refine ⟨rfl, tYes_do ?_⟩
          refine ⟨_, rfl, c, _, _, _, rfl, rfl, hc, at0, _, hacc, small_lt (by rw [List.length_map, List.length_take]; omega), s3.upd hD2n, ?_⟩
          rw [upd_same, List.take_add_one, ee, List.map_append]
          rfl
        · rintro H3 ⟨s3, hD3⟩
          rw [List.take_of_length_le (by omega)] at hD3
          have kt3 := KT.same s3
          have e3 : ExtN H1 H3 := Sm.ext (s2.trans s3)
          have hT3 := hT2.ext s3
          have q1 : Dp K H3 (.ref D) (strL ((due rs).map Rw.label)) := strL_dp (SqL.of (by rw [List.map_map]; exact s3 _ _ hD2))
          have q2 : Dp K H3 (.ref D2) (strL (fs.map Prod.fst)) := strL_dp (SqL.of (by rw [List.map_map]; exact hD3))
          refine ⟨_, _, q1, q2, strL_shaped fun l hl => ?_, strL_shaped fun l hl => ?_, _, rfl, ?_⟩
          · obtain ⟨r, hr, rfl⟩ := List.mem_map.mp hl
            obtain ⟨m1, m2⟩ := due_mem hr
            exact label_ok (wfs_mem hw m1) m2
          · obtain ⟨p, hp, rfl⟩ := List.mem_map.mp hl
            obtain ⟨i, hi⟩ := List.getElem?_of_mem hp
            obtain ⟨z, ez, rz⟩ := hgs.get (show (Fv.ds fs)[i]? = some (fld p) by rw [fds_map, List.getElem?_map, hi]; rfl)
            obtain ⟨_, _, _, _, _, hk⟩ := inv_fld rz
            exact hk
          rw [strL_eqv]
          by_cases hl : (due rs).map Rw.label = fs.map Prod.fst
          · rw [decide_eq_true hl]
            refine iteF (A := _) ?_
            have hll : (due rs).length = fs.length := by simpa using congrArg List.length hl
            refine ⟨_, rfl, _, rfl, b, _, _, _, rfl, rfl, kt3.sqt hb', at1, F, g, ys, gs, rfl, SqL.of (s3 _ _ hF2), kt3.sqt hg, ZM.for_zipM (xs := ys) (ys := gs) (by omega) (fun j σ' H' => ∃ v6 v7 : Option V, σ' = [some ex, some x, some (.ref b), some sx, some (.int d), some (.ref F), v6, v7] ∧ ExtN H3 H' ∧ Tabs (TT PT) H' ∧
              ∀ i, i < j → ∀ r p, (due rs)[i]? = some r → fs[i]? = some p → r.agr d.toNat p.2 = true) ?_ ?_ ?_ ?_⟩
            · exact ⟨none, none, rfl, ExtN.refl _, hT3, fun i hi => absurd hi (Nat.not_lt_zero _)⟩
            · rintro j σ' H' ⟨v6, v7, rfl, e4, _⟩
              exact ⟨.inl (Rd.of (e4 _ _ (s3 _ _ hF2) fun _ z => by cases z)), e4.kt.sqt (kt3.sqt hg)⟩
            · rintro j y z T' σ' H' ey ez ⟨v6, v7, rfl, e4, hT4, hbef⟩ hT'
              have hj1 : j < (due rs).length := by have := (List.getElem?_eq_some_iff.mp ey).1; omega
              have hj2 : j < fs.length := by omega
              have er : (due rs)[j]? = some (due rs)[j] := List.getElem?_eq_getElem hj1
              have ep : fs[j]? = some fs[j] := List.getElem?_eq_getElem hj2
              obtain ⟨y', ey', ry⟩ := hys.get (show (Rw.ds (due rs))[j]? = some ((due rs)[j]).d by rw [rds_map, List.getElem?_map, er]; rfl)
              obtain ⟨z', ez', rz⟩ := hgs.get (show (Fv.ds fs)[j]? = some (fld fs[j]) by rw [fds_map, List.getElem?_map, ep]; rfl)
              rw [ey] at ey'
              rw [ez] at ez'
              cases ey'
              cases ez'
              obtain ⟨m1, m2⟩ := due_mem (List.getElem_mem hj1)
              have s5 : Sm H' (upd H' T' (.tup [y, z])) := Sm.new hT'
              have hT5 := hT4.ext s5
              have e5 : ExtN H3 (upd H' T' (.tup [y, z])) := e4.trans (Sm.ext s5)
              have kt5 : KT H2 (upd H' T' (.tup [y, z])) := kt3.trans e5.kt
              have o_T : (upd H' T' (.tup [y, z])) T' = some (.tup [y, z]) := upd_same
              generalize (upd H' T' (.tup [y, z])) = H5 at s5 hT5 e5 kt5 o_T ⊢
              obtain ⟨c, v, rfl, hc, hv, _⟩ := inv_fld (rz.on kt5)
              refine ⟨T', [y, .ref c], rfl, .inl (Rd.of o_T), rfl, y, [.ref c], rfl, .ref c, [], rfl, rfl, ?_⟩
              refine ⟨_, rfl, _, rfl, _, rfl, c, _, _, _, rfl, rfl, hc, at1, _, rfl, _, rfl, ex, y, v, sx, d, N, (due rs)[j], (fs[j]).2, rfl, hd, hN, hex.on kt5, hsx.on kt5, ry.on kt5, wfs_mem hw m1, m2, Nat.le_trans (rdeps_mem m1) hdep, hv, foks_mem hfo.2 (List.getElem_mem hj2), hT5, fun H6 e6 hT6 => ⟨_, rfl, ?_⟩⟩
              cases ea : (due rs)[j].agr d.toNat (fs[j]).2 with
              | false =>
                refine iteT (B := _) ?_
                refine done (e3.trans (e5.trans e6)) hT6 ?_
                exact bad_at er ep ea
              | true =>
                refine iteF (A := _) ⟨_, _, rfl, e5.trans e6, hT6, fun i hi r p e1 e2 => ?_⟩
                rcases Nat.lt_succ_iff_lt_or_eq.mp hi with h | h
                · exact hbef i h r p e1 e2
                · subst h
                  rw [er] at e1
                  rw [ep] at e2
                  cases e1
                  cases e2
                  exact ea
            · rintro σ' H' ⟨v6, v7, rfl, e4, hT4, hbef⟩
              refine done (e3.trans e4) hT4 ?_
              rw [goA_eq, decide_eq_true hl, Bool.true_and]
              exact zipF_all hll fun i r p e1 e2 => hbef i (by have := (List.getElem?_eq_some_iff.mp e1).1; omega) r p e1 e2
          · rw [decide_eq_false hl]
            refine iteT (B := _) ?_
            exact done e3 hT3 (bad_labels hl)
    · rw [decide_eq_false ht]
      refine iteT (B := _) ?_
      have := k H (ExtN.refl H) hT
      have e : lvA d.toNat rs f = false := by
        cases f with
        | rcd fs => exact absurd rfl ht
        | lf v => rfl
        | exn i m => rfl
      rw [e] at this
      exact this
theorem ok_lvl (T : Txt K mg A) {cc PT : Addr} (TB : TabB base mg cc PT) (hcd : A.d_ordered_fields.code = .ref cc) : ∀ n : Nat, FnOk P w K mg base CX0 (2 * n + 194) A.f_agrees_with_level A.d_agrees_with_level ["entries", "level", "value", "store", "depth"] (spLvl K PT n)
  | 0 => lvl_step T TB hcd 0 (fld_step T 0 (T.F_agrees_with_level.ok (k := 191) sc_agrees_with_level (fun _ _ _ _ h => h.elim) (fun _ _ _ _ _ _ _ _ _ h => h.elim)))
  | n + 1 => lvl_step T TB hcd (n + 1) (fld_step T (n + 1) (ok_lvl T TB hcd n))
end
end K89

set_option Elab.async false
set_option maxRecDepth 100000
set_option linter.all false
set_option maxHeartbeats 40000000
set_option pp.maxSteps 400
namespace K89
open PySem L2 GD AG LV LamX
section
variable {P : Program} {w : World} {K : PySem.W.Frag} {mg : Str → Option Value} {base : Heap} {A : Adr}
theorem sok {x : Str} (h : PyData.strOk x = true := by decide +kernel) {H : Hp} : Rp K H (.str x) (.str x) := .str x h
theorem Sm.sm {H H1 H2 : Hp} (h : Sm H H1) (k : Sm H1 H2) : Sm H H2 := fun a o e => k a o (h a o e)
/-- but for the box, more -/
def Bs (b c : Addr) (H H' : Hp) : Prop := ∀ a o, a ≠ b → a ≠ c → H a = some o → H' a = some o
theorem Bs.refl {b c : Addr} {H : Hp} : Bs b c H H := fun _ _ _ _ e => e
theorem Bs.trans {b c : Addr} {H H1 H2 : Hp} (h : Bs b c H H1) (k : Bs b c H1 H2) : Bs b c H H2 := fun a o n1 n2 e => k a o n1 n2 (h a o n1 n2 e)
theorem Bs.sm {b c : Addr} {H H1 H2 : Hp} (h : Bs b c H H1) (k : Sm H1 H2) : Bs b c H H2 := fun a o n1 n2 e => k a o (h a o n1 n2 e)
theorem Bs.bx {b c : Addr} {H H1 H2 : Hp} (h : Bs b c H H1) (k : Bx b c H1 H2) : Bs b c H H2 := fun a o n1 n2 e => (k a n1 n2).trans (h a o n1 n2 e)
theorem Bs.of {b c : Addr} {H H' : Hp} (k : Bx b c H H') : Bs b c H H' := fun a o n1 n2 e => (k a n1 n2).trans e
/-- an object that was not there at the start changes -/
theorem Bs.upd {b c p : Addr} {H H1 : Hp} {o : HO} (s : Bs b c H H1) (h : H p = none) : Bs b c H (L2.upd H1 p o) := fun a u n1 n2 e => by
  rw [upd_ne (ne_of_none e h)]
  exact s a u n1 n2 e
theorem BoxAt.off2 {H : Hp} {b c L p q : Addr} {xs : List V} (h : BoxAt H b c) (e : H L = some (.lst (.ref p :: .ref q :: xs))) : L ≠ b ∧ L ≠ c := by
  obtain ⟨ns, n, m, k, h1, h2, _⟩ := h
  refine ⟨ne_of e h1 (fun z => by cases z), ne_of e h2 fun z => ?_⟩
  cases ns with
  | nil => cases z
  | cons x r => cases z
theorem BoxAt.kts {H H' : Hp} {b c : Addr} (h : BoxAt H b c) (k : Bs b c H H') : KT H H' := by
  obtain ⟨ns, n, m, k0, h1, h2, h3⟩ := h
  intro a xs q
  have n1 : a ≠ b := fun z => NT.lst h1 xs (by rw [z] at q; exact q)
  have n2 : a ≠ c := fun z => NT.lst h2 xs (by rw [z] at q; exact q)
  rcases q with q | ⟨o, q⟩
  · exact .inl (k _ _ n1 n2 q)
  · exact .inr ⟨o, k _ _ n1 n2 q⟩
def spRow (K : PySem.W.Frag) (n : Nat) : Sp := fun vs H Q _ => ∃ (b c : Addr) (k : Nat) (name : Str) (deep : Int), vs = [.ref b, .str (tagAt k), .str name, .int deep] ∧ deep = (n : Int) ∧ k < 4 ∧ name ∈ tagN k ∧ (k = 2 → 0 < n) ∧ BoxAt H b c ∧
  ∀ (res : V) (r : Rw) (H' : Hp), Bs b c H H' → BoxAt H' b c → Rp K H' res (.tuple [r.d, r.fv.d]) → r.tag = tagAt k → r.name = name → r.wf → r.dep ≤ n → Q res H'
def spLev (K : PySem.W.Frag) (n : Nat) : Sp := fun vs H Q _ => ∃ (b c : Addr) (deep : Int), vs = [.ref b, .int deep] ∧ deep = (n : Int) ∧ BoxAt H b c ∧
  ∀ (res : V) (rs : List Rw) (H' : Hp), Bs b c H H' → BoxAt H' b c → Rp K H' res (.tuple [.tuple (Rw.ds rs), .tuple (Fv.ds (Rw.fls rs))]) → Rw.wfs rs → Srt rs → rs.length ≤ 100 → Rw.deps rs ≤ n → Q res H'
def spLevR (K : PySem.W.Frag) : Nat → Sp
  | 0 => fun _ _ _ _ => False
  | n + 1 => spLev K n
theorem tagN_all {k : Nat} {x : Str} (h : x ∈ tagN k) : x ∈ allN := by
  match k, h with
  | 0, h => exact (show ∀ x ∈ tagN 0, x ∈ allN by decide +kernel) x h
  | 1, h => exact (show ∀ x ∈ tagN 1, x ∈ allN by decide +kernel) x h
  | 2, h => exact (show ∀ x ∈ tagN 2, x ∈ allN by decide +kernel) x h
  | k + 3, h => exact (show ∀ x ∈ tagN 3, x ∈ allN by decide +kernel) x h
theorem row_step (T : Txt K mg A) (n : Nat) (G__law_level : FnOk P w K mg base CX0 (2 * n + 3) A.f__law_level A.d__law_level ["box", "deep"] (spLevR K n)) : FnOk P w K mg base CX0 (2 * n + 4) A.f__law_row A.d__law_row ["box", "tag", "name", "deep"] (spRow K n) := by
  have G__law_draw : FnOk P w K mg base CX0 2 A.f__law_draw A.d__law_draw _ _ := ok__law_draw T
  refine T.F__law_row.ok (k := 2 * n + 3) sc__law_row (fun vs H Q E h => ?_) (fun cdv Ar outer s H vs Q E hr h => ?_)
  · obtain ⟨b, c, k, name, deep, rfl, _⟩ := h
    rfl
  · obtain ⟨b, c, kk, name, deep, rfl, hd, hk4, hname, hk2, hB, k⟩ := h
    refine ⟨_, (pss_cons (ps_set (i := 4) sc__law_row.nd rfl (Or.inl rfl) (pe_call G__law_draw (hr.mono (by first | decide | omega)) rfl T.g__law_draw T.F__law_draw.kp T.b__law_draw .nil pass0 (pa_cons (pv 0) (pa_cons pe_int pa_nil)))) (pss_cons (ps_if (pt_cmpR op_eq (pv 1) pe_str (nomark _)) (pss_cons (ps_set (i := 5) sc__law_row.nd rfl (Or.inl rfl) (pe_lst (pa_cons (pe_tup (pa_cons pe_str (pa_cons pe_int (pa_cons (pe_tup pa_nil) pa_nil)))) (pa_cons (pe_tup (pa_cons pe_str (pa_cons pe_int (pa_cons (pe_tup pa_nil) pa_nil)))) (pa_cons (pe_tup (pa_cons pe_str (pa_cons (pe_tup (pa_cons pe_str (pa_cons pe_int (pa_cons (pe_tup pa_nil) pa_nil)))) (pa_cons (pe_tup (pa_cons pe_str (pa_cons pe_int (pa_cons (pe_tup pa_nil) pa_nil)))) pa_nil)))) (pa_cons (pe_tup (pa_cons pe_str (pa_cons pe_int (pa_cons (pe_tup (pa_cons (pe_tup (pa_cons pe_str (pa_cons pe_int pa_nil))) pa_nil)) pa_nil)))) pa_nil)))))) (pss_cons (ps_set (i := 6) sc__law_row.nd rfl (Or.inl rfl) (pe_lst (pa_cons (pe_tup (pa_cons pe_str (pa_cons pe_int pa_nil))) (pa_cons (pe_tup (pa_cons pe_str (pa_cons (pe_tup pa_nil) pa_nil))) (pa_cons (pe_tup (pa_cons pe_str (pa_cons pe_str (pa_cons (pe_tup (pa_cons pe_str (pa_cons pe_str pa_nil))) (pa_cons pe_non pa_nil))))) (pa_cons (pe_tup (pa_cons pe_str (pa_cons pe_int (pa_cons pe_str (pa_cons pe_non pa_nil))))) pa_nil)))))) (pss_one (ps_ret (pe_tup (pa_cons (pe_tup (pa_cons pe_str (pa_cons (pv 2) (pa_cons (pe_tup (pa_cons (pe_callTy call_int1 (by rfl) T.n_int (by decide +kernel) (pa_cons (pe_cmpR op_eq (pv 4) pe_int (nomark _)) pa_nil)) (pa_cons (pe_ix (ixl (K := K) rfl) (pv 5) (pv 4) (fun _ _ => rfl)) pa_nil))) pa_nil)))) (pa_cons (pe_ix (ixl (K := K) rfl) (pv 6) (pv 4) (fun _ _ => rfl)) pa_nil))))))) pss_nil) (pss_cons (ps_if (pt_cmpR op_eq (pv 1) pe_str (nomark _)) (pss_one (ps_ret (pe_tup (pa_cons (pe_tup (pa_cons pe_str (pa_cons (pv 2) (pa_cons (pe_ix (ixl (K := K) rfl) (pe_lst (pa_cons pe_non (pa_cons (pe_tup (pa_cons pe_str (pa_cons pe_int (pa_cons (pe_tup pa_nil) pa_nil)))) pa_nil))) (pe_op op_mod (pv 4) pe_int) (fun _ _ => rfl)) pa_nil)))) (pa_cons (pe_tup (pa_cons pe_str (pa_cons (pe_op op_add pe_int (pv 4)) (pa_cons (pv 2) pa_nil)))) pa_nil))))) pss_nil) (pss_cons (ps_if (pt_cmpR op_eq (pv 1) pe_str (nomark _)) (pss_one (ps_ret (pe_tup (pa_cons (pe_tup (pa_cons pe_str (pa_cons (pv 2) (pa_cons (pe_tup (pa_cons (pe_tup pa_nil) (pa_cons (pe_tup pa_nil) pa_nil))) (pa_cons (pe_tup pa_nil) (pa_cons (pe_tup pa_nil) pa_nil)))))) (pa_cons (pe_tup (pa_cons pe_str (pa_cons pe_str (pa_cons (pe_tup (pa_cons pe_str (pa_cons pe_str pa_nil))) (pa_cons pe_non pa_nil))))) pa_nil))))) pss_nil) (pss_cons (ps_asg (pe_call G__law_level (hr.mono (by first | decide | omega)) rfl T.g__law_level T.F__law_level.kp T.b__law_level .nil pass0 (pa_cons (pv 0) (pa_cons (pe_op op_sub (pv 3) pe_int) pa_nil))) (pg_tup rfl (pgs_cons (pg_name (i := 7) sc__law_row.nd rfl (Or.inl rfl)) (pgs_cons (pg_name (i := 8) sc__law_row.nd rfl (Or.inl rfl)) pgs_nil)))) (pss_one (ps_ret (pe_tup (pa_cons (pe_tup (pa_cons pe_str (pa_cons (pv 2) (pa_cons (pv 7) pa_nil)))) (pa_cons (pe_tup (pa_cons pe_str (pa_cons (pv 8) pa_nil))) pa_nil)))))))))), ?_⟩
    have S : Bs b c H H := .refl
    have hnA := tagN_all hname
    have hnO : PyData.strOk name = true := allN_ok hnA
    refine ⟨_, rfl, b, c, 4, rfl, by decide, by decide, hB, fun kd H1 kd0 kd1 hx1 hB1 => ?_⟩
    replace S := S.bx hx1
    replace hB := hB1
    have h4 : kk = 0 ∨ kk = 1 ∨ kk = 2 ∨ kk = 3 := by omega
    have k4 : kd = 0 ∨ kd = 1 ∨ kd = 2 ∨ kd = 3 := by omega
    rcases h4 with rfl | rfl | rfl | rfl
    · -- values
      refine ⟨_, rfl, rfl, _, rfl, iteY (y_s _) ?_⟩
      refine ⟨Nat.zero_le _, fun a0 h_a0 => ?_⟩
      have s_a0 : Sm H1 (upd H1 a0 (.tup [])) := Sm.new h_a0
      have r_a0 : Rp K (upd H1 a0 (.tup [])) (.ref a0) (.tuple _) := Rp.mk upd_same (RpAll.on (.nil) (KT.upd_new h_a0))
      replace hB := hB.keep fun a o e _ => s_a0 a o e
      replace S := S.sm s_a0
      clear h_a0
      clear s_a0
      generalize (upd H1 a0 (.tup [])) = Hq1 at hB r_a0 S ⊢
      refine ⟨(show 3 ≤ sizeLine by decide), fun a1 h_a1 => ?_⟩
      have s_a1 : Sm Hq1 (upd Hq1 a1 (.tup [.str "c", .int 0, .ref a0])) := Sm.new h_a1
      have r_a1 : Rp K (upd Hq1 a1 (.tup [.str "c", .int 0, .ref a0])) (.ref a1) (.tuple _) := Rp.mk upd_same (RpAll.on (.cons sok (.cons (.int _) (.cons r_a0 .nil))) (KT.upd_new h_a1))
      replace hB := hB.keep fun a o e _ => s_a1 a o e
      replace r_a0 := r_a0.on (KT.same s_a1)
      replace S := S.sm s_a1
      clear h_a1
      clear s_a1
      generalize (upd Hq1 a1 (.tup [.str "c", .int 0, .ref a0])) = Hq2 at hB r_a0 r_a1 S ⊢
      refine ⟨Nat.zero_le _, fun b0 h_b0 => ?_⟩
      have s_b0 : Sm Hq2 (upd Hq2 b0 (.tup [])) := Sm.new h_b0
      have r_b0 : Rp K (upd Hq2 b0 (.tup [])) (.ref b0) (.tuple _) := Rp.mk upd_same (RpAll.on (.nil) (KT.upd_new h_b0))
      replace hB := hB.keep fun a o e _ => s_b0 a o e
      replace r_a0 := r_a0.on (KT.same s_b0)
      replace r_a1 := r_a1.on (KT.same s_b0)
      replace S := S.sm s_b0
      clear h_b0
      clear s_b0
      generalize (upd Hq2 b0 (.tup [])) = Hq3 at hB r_a0 r_a1 r_b0 S ⊢
      refine ⟨(show 3 ≤ sizeLine by decide), fun b1 h_b1 => ?_⟩
      have s_b1 : Sm Hq3 (upd Hq3 b1 (.tup [.str "c", .int 1, .ref b0])) := Sm.new h_b1
      have r_b1 : Rp K (upd Hq3 b1 (.tup [.str "c", .int 1, .ref b0])) (.ref b1) (.tuple _) := Rp.mk upd_same (RpAll.on (.cons sok (.cons (.int _) (.cons r_b0 .nil))) (KT.upd_new h_b1))
      replace hB := hB.keep fun a o e _ => s_b1 a o e
      replace r_a0 := r_a0.on (KT.same s_b1)
      replace r_a1 := r_a1.on (KT.same s_b1)
      replace r_b0 := r_b0.on (KT.same s_b1)
      replace S := S.sm s_b1
      clear h_b1
      clear s_b1
      generalize (upd Hq3 b1 (.tup [.str "c", .int 1, .ref b0])) = Hq4 at hB r_a0 r_a1 r_b0 r_b1 S ⊢
      refine ⟨Nat.zero_le _, fun c0 h_c0 => ?_⟩
      have s_c0 : Sm Hq4 (upd Hq4 c0 (.tup [])) := Sm.new h_c0
      have r_c0 : Rp K (upd Hq4 c0 (.tup [])) (.ref c0) (.tuple _) := Rp.mk upd_same (RpAll.on (.nil) (KT.upd_new h_c0))
      replace hB := hB.keep fun a o e _ => s_c0 a o e
      replace r_a0 := r_a0.on (KT.same s_c0)
      replace r_a1 := r_a1.on (KT.same s_c0)
      replace r_b0 := r_b0.on (KT.same s_c0)
      replace r_b1 := r_b1.on (KT.same s_c0)
      replace S := S.sm s_c0
      clear h_c0
      clear s_c0
      generalize (upd Hq4 c0 (.tup [])) = Hq5 at hB r_a0 r_a1 r_b0 r_b1 r_c0 S ⊢
      refine ⟨(show 3 ≤ sizeLine by decide), fun c1 h_c1 => ?_⟩
      have s_c1 : Sm Hq5 (upd Hq5 c1 (.tup [.str "c", .int 0, .ref c0])) := Sm.new h_c1
      have r_c1 : Rp K (upd Hq5 c1 (.tup [.str "c", .int 0, .ref c0])) (.ref c1) (.tuple _) := Rp.mk upd_same (RpAll.on (.cons sok (.cons (.int _) (.cons r_c0 .nil))) (KT.upd_new h_c1))
      replace hB := hB.keep fun a o e _ => s_c1 a o e
      replace r_a0 := r_a0.on (KT.same s_c1)
      replace r_a1 := r_a1.on (KT.same s_c1)
      replace r_b0 := r_b0.on (KT.same s_c1)
      replace r_b1 := r_b1.on (KT.same s_c1)
      replace r_c0 := r_c0.on (KT.same s_c1)
      replace S := S.sm s_c1
      clear h_c1
      clear s_c1
      generalize (upd Hq5 c1 (.tup [.str "c", .int 0, .ref c0])) = Hq6 at hB r_a0 r_a1 r_b0 r_b1 r_c0 r_c1 S ⊢
      refine ⟨Nat.zero_le _, fun c2 h_c2 => ?_⟩
      have s_c2 : Sm Hq6 (upd Hq6 c2 (.tup [])) := Sm.new h_c2
      have r_c2 : Rp K (upd Hq6 c2 (.tup [])) (.ref c2) (.tuple _) := Rp.mk upd_same (RpAll.on (.nil) (KT.upd_new h_c2))
      replace hB := hB.keep fun a o e _ => s_c2 a o e
      replace r_a0 := r_a0.on (KT.same s_c2)
      replace r_a1 := r_a1.on (KT.same s_c2)
      replace r_b0 := r_b0.on (KT.same s_c2)
      replace r_b1 := r_b1.on (KT.same s_c2)
      replace r_c0 := r_c0.on (KT.same s_c2)
      replace r_c1 := r_c1.on (KT.same s_c2)
      replace S := S.sm s_c2
      clear h_c2
      clear s_c2
      generalize (upd Hq6 c2 (.tup [])) = Hq7 at hB r_a0 r_a1 r_b0 r_b1 r_c0 r_c1 r_c2 S ⊢
      refine ⟨(show 3 ≤ sizeLine by decide), fun c3 h_c3 => ?_⟩
      have s_c3 : Sm Hq7 (upd Hq7 c3 (.tup [.str "c", .int 0, .ref c2])) := Sm.new h_c3
      have r_c3 : Rp K (upd Hq7 c3 (.tup [.str "c", .int 0, .ref c2])) (.ref c3) (.tuple _) := Rp.mk upd_same (RpAll.on (.cons sok (.cons (.int _) (.cons r_c2 .nil))) (KT.upd_new h_c3))
      replace hB := hB.keep fun a o e _ => s_c3 a o e
      replace r_a0 := r_a0.on (KT.same s_c3)
      replace r_a1 := r_a1.on (KT.same s_c3)
      replace r_b0 := r_b0.on (KT.same s_c3)
      replace r_b1 := r_b1.on (KT.same s_c3)
      replace r_c0 := r_c0.on (KT.same s_c3)
      replace r_c1 := r_c1.on (KT.same s_c3)
      replace r_c2 := r_c2.on (KT.same s_c3)
      replace S := S.sm s_c3
      clear h_c3
      clear s_c3
      generalize (upd Hq7 c3 (.tup [.str "c", .int 0, .ref c2])) = Hq8 at hB r_a0 r_a1 r_b0 r_b1 r_c0 r_c1 r_c2 r_c3 S ⊢
      refine ⟨(show 3 ≤ sizeLine by decide), fun c4 h_c4 => ?_⟩
      have s_c4 : Sm Hq8 (upd Hq8 c4 (.tup [.str "f", .ref c1, .ref c3])) := Sm.new h_c4
      have r_c4 : Rp K (upd Hq8 c4 (.tup [.str "f", .ref c1, .ref c3])) (.ref c4) (.tuple _) := Rp.mk upd_same (RpAll.on (.cons sok (.cons r_c1 (.cons r_c3 .nil))) (KT.upd_new h_c4))
      replace hB := hB.keep fun a o e _ => s_c4 a o e
      replace r_a0 := r_a0.on (KT.same s_c4)
      replace r_a1 := r_a1.on (KT.same s_c4)
      replace r_b0 := r_b0.on (KT.same s_c4)
      replace r_b1 := r_b1.on (KT.same s_c4)
      replace r_c0 := r_c0.on (KT.same s_c4)
      replace r_c1 := r_c1.on (KT.same s_c4)
      replace r_c2 := r_c2.on (KT.same s_c4)
      replace r_c3 := r_c3.on (KT.same s_c4)
      replace S := S.sm s_c4
      clear h_c4
      clear s_c4
      generalize (upd Hq8 c4 (.tup [.str "f", .ref c1, .ref c3])) = Hq9 at hB r_a0 r_a1 r_b0 r_b1 r_c0 r_c1 r_c2 r_c3 r_c4 S ⊢
      refine ⟨(show 2 ≤ sizeLine by decide), fun d0 h_d0 => ?_⟩
      have s_d0 : Sm Hq9 (upd Hq9 d0 (.tup [.str "v", .int 0])) := Sm.new h_d0
      have r_d0 : Rp K (upd Hq9 d0 (.tup [.str "v", .int 0])) (.ref d0) (.tuple _) := Rp.mk upd_same (RpAll.on (.cons sok (.cons (.int _) .nil)) (KT.upd_new h_d0))
      replace hB := hB.keep fun a o e _ => s_d0 a o e
      replace r_a0 := r_a0.on (KT.same s_d0)
      replace r_a1 := r_a1.on (KT.same s_d0)
      replace r_b0 := r_b0.on (KT.same s_d0)
      replace r_b1 := r_b1.on (KT.same s_d0)
      replace r_c0 := r_c0.on (KT.same s_d0)
      replace r_c1 := r_c1.on (KT.same s_d0)
      replace r_c2 := r_c2.on (KT.same s_d0)
      replace r_c3 := r_c3.on (KT.same s_d0)
      replace r_c4 := r_c4.on (KT.same s_d0)
      replace S := S.sm s_d0
      clear h_d0
      clear s_d0
      generalize (upd Hq9 d0 (.tup [.str "v", .int 0])) = Hq10 at hB r_a0 r_a1 r_b0 r_b1 r_c0 r_c1 r_c2 r_c3 r_c4 r_d0 S ⊢
      refine ⟨(show 1 ≤ sizeLine by decide), fun d1 h_d1 => ?_⟩
      have s_d1 : Sm Hq10 (upd Hq10 d1 (.tup [.ref d0])) := Sm.new h_d1
      have r_d1 : Rp K (upd Hq10 d1 (.tup [.ref d0])) (.ref d1) (.tuple _) := Rp.mk upd_same (RpAll.on (.cons r_d0 .nil) (KT.upd_new h_d1))
      replace hB := hB.keep fun a o e _ => s_d1 a o e
      replace r_a0 := r_a0.on (KT.same s_d1)
      replace r_a1 := r_a1.on (KT.same s_d1)
      replace r_b0 := r_b0.on (KT.same s_d1)
      replace r_b1 := r_b1.on (KT.same s_d1)
      replace r_c0 := r_c0.on (KT.same s_d1)
      replace r_c1 := r_c1.on (KT.same s_d1)
      replace r_c2 := r_c2.on (KT.same s_d1)
      replace r_c3 := r_c3.on (KT.same s_d1)
      replace r_c4 := r_c4.on (KT.same s_d1)
      replace r_d0 := r_d0.on (KT.same s_d1)
      replace S := S.sm s_d1
      clear h_d1
      clear s_d1
      generalize (upd Hq10 d1 (.tup [.ref d0])) = Hq11 at hB r_a0 r_a1 r_b0 r_b1 r_c0 r_c1 r_c2 r_c3 r_c4 r_d0 r_d1 S ⊢
      refine ⟨(show 3 ≤ sizeLine by decide), fun d2 h_d2 => ?_⟩
      have s_d2 : Sm Hq11 (upd Hq11 d2 (.tup [.str "c", .int 5, .ref d1])) := Sm.new h_d2
      have r_d2 : Rp K (upd Hq11 d2 (.tup [.str "c", .int 5, .ref d1])) (.ref d2) (.tuple _) := Rp.mk upd_same (RpAll.on (.cons sok (.cons (.int _) (.cons r_d1 .nil))) (KT.upd_new h_d2))
      replace hB := hB.keep fun a o e _ => s_d2 a o e
      replace r_a0 := r_a0.on (KT.same s_d2)
      replace r_a1 := r_a1.on (KT.same s_d2)
      replace r_b0 := r_b0.on (KT.same s_d2)
      replace r_b1 := r_b1.on (KT.same s_d2)
      replace r_c0 := r_c0.on (KT.same s_d2)
      replace r_c1 := r_c1.on (KT.same s_d2)
      replace r_c2 := r_c2.on (KT.same s_d2)
      replace r_c3 := r_c3.on (KT.same s_d2)
      replace r_c4 := r_c4.on (KT.same s_d2)
      replace r_d0 := r_d0.on (KT.same s_d2)
      replace r_d1 := r_d1.on (KT.same s_d2)
      replace S := S.sm s_d2
      clear h_d2
      clear s_d2
      generalize (upd Hq11 d2 (.tup [.str "c", .int 5, .ref d1])) = Hq12 at hB r_a0 r_a1 r_b0 r_b1 r_c0 r_c1 r_c2 r_c3 r_c4 r_d0 r_d1 r_d2 S ⊢
      refine ⟨(show 4 ≤ sizeLine by decide), fun LS h_LS => ?_⟩
      have s_LS : Sm Hq12 (upd Hq12 LS (.lst [.ref a1, .ref b1, .ref c4, .ref d2])) := Sm.new h_LS
      have o_LS : (upd Hq12 LS (.lst [.ref a1, .ref b1, .ref c4, .ref d2])) LS = some (.lst [.ref a1, .ref b1, .ref c4, .ref d2]) := upd_same
      replace hB := hB.keep fun a o e _ => s_LS a o e
      replace r_a0 := r_a0.on (KT.same s_LS)
      replace r_a1 := r_a1.on (KT.same s_LS)
      replace r_b0 := r_b0.on (KT.same s_LS)
      replace r_b1 := r_b1.on (KT.same s_LS)
      replace r_c0 := r_c0.on (KT.same s_LS)
      replace r_c1 := r_c1.on (KT.same s_LS)
      replace r_c2 := r_c2.on (KT.same s_LS)
      replace r_c3 := r_c3.on (KT.same s_LS)
      replace r_c4 := r_c4.on (KT.same s_LS)
      replace r_d0 := r_d0.on (KT.same s_LS)
      replace r_d1 := r_d1.on (KT.same s_LS)
      replace r_d2 := r_d2.on (KT.same s_LS)
      replace S := S.sm s_LS
      clear h_LS
      clear s_LS
      generalize (upd Hq12 LS (.lst [.ref a1, .ref b1, .ref c4, .ref d2])) = Hq13 at hB r_a0 r_a1 r_b0 r_b1 r_c0 r_c1 r_c2 r_c3 r_c4 r_d0 r_d1 r_d2 o_LS S ⊢
      refine ⟨(show 2 ≤ sizeLine by decide), fun u0 h_u0 => ?_⟩
      have s_u0 : Sm Hq13 (upd Hq13 u0 (.tup [.str "int", .int 7])) := Sm.new h_u0
      have r_u0 : Rp K (upd Hq13 u0 (.tup [.str "int", .int 7])) (.ref u0) (.tuple _) := Rp.mk upd_same (RpAll.on (.cons sok (.cons (.int _) .nil)) (KT.upd_new h_u0))
      replace hB := hB.keep fun a o e _ => s_u0 a o e
      replace r_a0 := r_a0.on (KT.same s_u0)
      replace r_a1 := r_a1.on (KT.same s_u0)
      replace r_b0 := r_b0.on (KT.same s_u0)
      replace r_b1 := r_b1.on (KT.same s_u0)
      replace r_c0 := r_c0.on (KT.same s_u0)
      replace r_c1 := r_c1.on (KT.same s_u0)
      replace r_c2 := r_c2.on (KT.same s_u0)
      replace r_c3 := r_c3.on (KT.same s_u0)
      replace r_c4 := r_c4.on (KT.same s_u0)
      replace r_d0 := r_d0.on (KT.same s_u0)
      replace r_d1 := r_d1.on (KT.same s_u0)
      replace r_d2 := r_d2.on (KT.same s_u0)
      replace o_LS := s_u0 _ _ o_LS
      replace S := S.sm s_u0
      clear h_u0
      clear s_u0
      generalize (upd Hq13 u0 (.tup [.str "int", .int 7])) = Hq14 at hB r_a0 r_a1 r_b0 r_b1 r_c0 r_c1 r_c2 r_c3 r_c4 r_d0 r_d1 r_d2 o_LS r_u0 S ⊢
      refine ⟨Nat.zero_le _, fun u1 h_u1 => ?_⟩
      have s_u1 : Sm Hq14 (upd Hq14 u1 (.tup [])) := Sm.new h_u1
      have r_u1 : Rp K (upd Hq14 u1 (.tup [])) (.ref u1) (.tuple _) := Rp.mk upd_same (RpAll.on (.nil) (KT.upd_new h_u1))
      replace hB := hB.keep fun a o e _ => s_u1 a o e
      replace r_a0 := r_a0.on (KT.same s_u1)
      replace r_a1 := r_a1.on (KT.same s_u1)
      replace r_b0 := r_b0.on (KT.same s_u1)
      replace r_b1 := r_b1.on (KT.same s_u1)
      replace r_c0 := r_c0.on (KT.same s_u1)
      replace r_c1 := r_c1.on (KT.same s_u1)
      replace r_c2 := r_c2.on (KT.same s_u1)
      replace r_c3 := r_c3.on (KT.same s_u1)
      replace r_c4 := r_c4.on (KT.same s_u1)
      replace r_d0 := r_d0.on (KT.same s_u1)
      replace r_d1 := r_d1.on (KT.same s_u1)
      replace r_d2 := r_d2.on (KT.same s_u1)
      replace o_LS := s_u1 _ _ o_LS
      replace r_u0 := r_u0.on (KT.same s_u1)
      replace S := S.sm s_u1
      clear h_u1
      clear s_u1
      generalize (upd Hq14 u1 (.tup [])) = Hq15 at hB r_a0 r_a1 r_b0 r_b1 r_c0 r_c1 r_c2 r_c3 r_c4 r_d0 r_d1 r_d2 o_LS r_u0 r_u1 S ⊢
      refine ⟨(show 2 ≤ sizeLine by decide), fun u2 h_u2 => ?_⟩
      have s_u2 : Sm Hq15 (upd Hq15 u2 (.tup [.str "tuple", .ref u1])) := Sm.new h_u2
      have r_u2 : Rp K (upd Hq15 u2 (.tup [.str "tuple", .ref u1])) (.ref u2) (.tuple _) := Rp.mk upd_same (RpAll.on (.cons sok (.cons r_u1 .nil)) (KT.upd_new h_u2))
      replace hB := hB.keep fun a o e _ => s_u2 a o e
      replace r_a0 := r_a0.on (KT.same s_u2)
      replace r_a1 := r_a1.on (KT.same s_u2)
      replace r_b0 := r_b0.on (KT.same s_u2)
      replace r_b1 := r_b1.on (KT.same s_u2)
      replace r_c0 := r_c0.on (KT.same s_u2)
      replace r_c1 := r_c1.on (KT.same s_u2)
      replace r_c2 := r_c2.on (KT.same s_u2)
      replace r_c3 := r_c3.on (KT.same s_u2)
      replace r_c4 := r_c4.on (KT.same s_u2)
      replace r_d0 := r_d0.on (KT.same s_u2)
      replace r_d1 := r_d1.on (KT.same s_u2)
      replace r_d2 := r_d2.on (KT.same s_u2)
      replace o_LS := s_u2 _ _ o_LS
      replace r_u0 := r_u0.on (KT.same s_u2)
      replace r_u1 := r_u1.on (KT.same s_u2)
      replace S := S.sm s_u2
      clear h_u2
      clear s_u2
      generalize (upd Hq15 u2 (.tup [.str "tuple", .ref u1])) = Hq16 at hB r_a0 r_a1 r_b0 r_b1 r_c0 r_c1 r_c2 r_c3 r_c4 r_d0 r_d1 r_d2 o_LS r_u0 r_u1 r_u2 S ⊢
      refine ⟨(show 2 ≤ sizeLine by decide), fun u3 h_u3 => ?_⟩
      have s_u3 : Sm Hq16 (upd Hq16 u3 (.tup [.str "var", .str "x"])) := Sm.new h_u3
      have r_u3 : Rp K (upd Hq16 u3 (.tup [.str "var", .str "x"])) (.ref u3) (.tuple _) := Rp.mk upd_same (RpAll.on (.cons sok (.cons sok .nil)) (KT.upd_new h_u3))
      replace hB := hB.keep fun a o e _ => s_u3 a o e
      replace r_a0 := r_a0.on (KT.same s_u3)
      replace r_a1 := r_a1.on (KT.same s_u3)
      replace r_b0 := r_b0.on (KT.same s_u3)
      replace r_b1 := r_b1.on (KT.same s_u3)
      replace r_c0 := r_c0.on (KT.same s_u3)
      replace r_c1 := r_c1.on (KT.same s_u3)
      replace r_c2 := r_c2.on (KT.same s_u3)
      replace r_c3 := r_c3.on (KT.same s_u3)
      replace r_c4 := r_c4.on (KT.same s_u3)
      replace r_d0 := r_d0.on (KT.same s_u3)
      replace r_d1 := r_d1.on (KT.same s_u3)
      replace r_d2 := r_d2.on (KT.same s_u3)
      replace o_LS := s_u3 _ _ o_LS
      replace r_u0 := r_u0.on (KT.same s_u3)
      replace r_u1 := r_u1.on (KT.same s_u3)
      replace r_u2 := r_u2.on (KT.same s_u3)
      replace S := S.sm s_u3
      clear h_u3
      clear s_u3
      generalize (upd Hq16 u3 (.tup [.str "var", .str "x"])) = Hq17 at hB r_a0 r_a1 r_b0 r_b1 r_c0 r_c1 r_c2 r_c3 r_c4 r_d0 r_d1 r_d2 o_LS r_u0 r_u1 r_u2 r_u3 S ⊢
      refine ⟨(show 4 ≤ sizeLine by decide), fun u4 h_u4 => ?_⟩
      have s_u4 : Sm Hq17 (upd Hq17 u4 (.tup [.str "fun", .str "x", .ref u3, .non])) := Sm.new h_u4
      have r_u4 : Rp K (upd Hq17 u4 (.tup [.str "fun", .str "x", .ref u3, .non])) (.ref u4) (.tuple _) := Rp.mk upd_same (RpAll.on (.cons sok (.cons sok (.cons r_u3 (.cons .non .nil)))) (KT.upd_new h_u4))
      replace hB := hB.keep fun a o e _ => s_u4 a o e
      replace r_a0 := r_a0.on (KT.same s_u4)
      replace r_a1 := r_a1.on (KT.same s_u4)
      replace r_b0 := r_b0.on (KT.same s_u4)
      replace r_b1 := r_b1.on (KT.same s_u4)
      replace r_c0 := r_c0.on (KT.same s_u4)
      replace r_c1 := r_c1.on (KT.same s_u4)
      replace r_c2 := r_c2.on (KT.same s_u4)
      replace r_c3 := r_c3.on (KT.same s_u4)
      replace r_c4 := r_c4.on (KT.same s_u4)
      replace r_d0 := r_d0.on (KT.same s_u4)
      replace r_d1 := r_d1.on (KT.same s_u4)
      replace r_d2 := r_d2.on (KT.same s_u4)
      replace o_LS := s_u4 _ _ o_LS
      replace r_u0 := r_u0.on (KT.same s_u4)
      replace r_u1 := r_u1.on (KT.same s_u4)
      replace r_u2 := r_u2.on (KT.same s_u4)
      replace r_u3 := r_u3.on (KT.same s_u4)
      replace S := S.sm s_u4
      clear h_u4
      clear s_u4
      generalize (upd Hq17 u4 (.tup [.str "fun", .str "x", .ref u3, .non])) = Hq18 at hB r_a0 r_a1 r_b0 r_b1 r_c0 r_c1 r_c2 r_c3 r_c4 r_d0 r_d1 r_d2 o_LS r_u0 r_u1 r_u2 r_u3 r_u4 S ⊢
      refine ⟨(show 4 ≤ sizeLine by decide), fun u5 h_u5 => ?_⟩
      have s_u5 : Sm Hq18 (upd Hq18 u5 (.tup [.str "con", .int 0, .str "Nil", .non])) := Sm.new h_u5
      have r_u5 : Rp K (upd Hq18 u5 (.tup [.str "con", .int 0, .str "Nil", .non])) (.ref u5) (.tuple _) := Rp.mk upd_same (RpAll.on (.cons sok (.cons (.int _) (.cons sok (.cons .non .nil)))) (KT.upd_new h_u5))
      replace hB := hB.keep fun a o e _ => s_u5 a o e
      replace r_a0 := r_a0.on (KT.same s_u5)
      replace r_a1 := r_a1.on (KT.same s_u5)
      replace r_b0 := r_b0.on (KT.same s_u5)
      replace r_b1 := r_b1.on (KT.same s_u5)
      replace r_c0 := r_c0.on (KT.same s_u5)
      replace r_c1 := r_c1.on (KT.same s_u5)
      replace r_c2 := r_c2.on (KT.same s_u5)
      replace r_c3 := r_c3.on (KT.same s_u5)
      replace r_c4 := r_c4.on (KT.same s_u5)
      replace r_d0 := r_d0.on (KT.same s_u5)
      replace r_d1 := r_d1.on (KT.same s_u5)
      replace r_d2 := r_d2.on (KT.same s_u5)
      replace o_LS := s_u5 _ _ o_LS
      replace r_u0 := r_u0.on (KT.same s_u5)
      replace r_u1 := r_u1.on (KT.same s_u5)
      replace r_u2 := r_u2.on (KT.same s_u5)
      replace r_u3 := r_u3.on (KT.same s_u5)
      replace r_u4 := r_u4.on (KT.same s_u5)
      replace S := S.sm s_u5
      clear h_u5
      clear s_u5
      generalize (upd Hq18 u5 (.tup [.str "con", .int 0, .str "Nil", .non])) = Hq19 at hB r_a0 r_a1 r_b0 r_b1 r_c0 r_c1 r_c2 r_c3 r_c4 r_d0 r_d1 r_d2 o_LS r_u0 r_u1 r_u2 r_u3 r_u4 r_u5 S ⊢
      refine ⟨(show 4 ≤ sizeLine by decide), fun LW h_LW => ?_⟩
      have s_LW : Sm Hq19 (upd Hq19 LW (.lst [.ref u0, .ref u2, .ref u4, .ref u5])) := Sm.new h_LW
      have o_LW : (upd Hq19 LW (.lst [.ref u0, .ref u2, .ref u4, .ref u5])) LW = some (.lst [.ref u0, .ref u2, .ref u4, .ref u5]) := upd_same
      replace hB := hB.keep fun a o e _ => s_LW a o e
      replace r_a0 := r_a0.on (KT.same s_LW)
      replace r_a1 := r_a1.on (KT.same s_LW)
      replace r_b0 := r_b0.on (KT.same s_LW)
      replace r_b1 := r_b1.on (KT.same s_LW)
      replace r_c0 := r_c0.on (KT.same s_LW)
      replace r_c1 := r_c1.on (KT.same s_LW)
      replace r_c2 := r_c2.on (KT.same s_LW)
      replace r_c3 := r_c3.on (KT.same s_LW)
      replace r_c4 := r_c4.on (KT.same s_LW)
      replace r_d0 := r_d0.on (KT.same s_LW)
      replace r_d1 := r_d1.on (KT.same s_LW)
      replace r_d2 := r_d2.on (KT.same s_LW)
      replace o_LS := s_LW _ _ o_LS
      replace r_u0 := r_u0.on (KT.same s_LW)
      replace r_u1 := r_u1.on (KT.same s_LW)
      replace r_u2 := r_u2.on (KT.same s_LW)
      replace r_u3 := r_u3.on (KT.same s_LW)
      replace r_u4 := r_u4.on (KT.same s_LW)
      replace r_u5 := r_u5.on (KT.same s_LW)
      replace S := S.sm s_LW
      clear h_LW
      clear s_LW
      generalize (upd Hq19 LW (.lst [.ref u0, .ref u2, .ref u4, .ref u5])) = Hq20 at hB r_a0 r_a1 r_b0 r_b1 r_c0 r_c1 r_c2 r_c3 r_c4 r_d0 r_d1 r_d2 o_LS r_u0 r_u1 r_u2 r_u3 r_u4 r_u5 o_LW S ⊢
      refine ⟨_, rfl, _, rfl, rfl, .inr ⟨_, rfl, ?_⟩⟩
      rcases k4 with rfl | rfl | rfl | rfl
      · refine ⟨_, rfl, _, rfl, LS, _, _, _, rfl, rfl, SqL.of o_LS, rfl, (show 2 ≤ sizeLine by decide), fun w0 h_w0 => ?_⟩
        have s_w0 : Sm Hq20 (upd Hq20 w0 (.tup [.int (if decide (V.int 0 = V.int 3) = true then 1 else 0), .ref a1])) := Sm.new h_w0
        have r_w0 : Rp K (upd Hq20 w0 (.tup [.int (if decide (V.int 0 = V.int 3) = true then 1 else 0), .ref a1])) (.ref w0) (.tuple _) := Rp.mk upd_same (RpAll.on (.cons (.int _) (.cons r_a1 .nil)) (KT.upd_new h_w0))
        replace hB := hB.keep fun a o e _ => s_w0 a o e
        replace r_a0 := r_a0.on (KT.same s_w0)
        replace r_a1 := r_a1.on (KT.same s_w0)
        replace r_b0 := r_b0.on (KT.same s_w0)
        replace r_b1 := r_b1.on (KT.same s_w0)
        replace r_c0 := r_c0.on (KT.same s_w0)
        replace r_c1 := r_c1.on (KT.same s_w0)
        replace r_c2 := r_c2.on (KT.same s_w0)
        replace r_c3 := r_c3.on (KT.same s_w0)
        replace r_c4 := r_c4.on (KT.same s_w0)
        replace r_d0 := r_d0.on (KT.same s_w0)
        replace r_d1 := r_d1.on (KT.same s_w0)
        replace r_d2 := r_d2.on (KT.same s_w0)
        replace o_LS := s_w0 _ _ o_LS
        replace r_u0 := r_u0.on (KT.same s_w0)
        replace r_u1 := r_u1.on (KT.same s_w0)
        replace r_u2 := r_u2.on (KT.same s_w0)
        replace r_u3 := r_u3.on (KT.same s_w0)
        replace r_u4 := r_u4.on (KT.same s_w0)
        replace r_u5 := r_u5.on (KT.same s_w0)
        replace o_LW := s_w0 _ _ o_LW
        replace S := S.sm s_w0
        clear h_w0
        clear s_w0
        generalize (upd Hq20 w0 (.tup [.int (if decide (V.int 0 = V.int 3) = true then 1 else 0), .ref a1])) = Hq21 at hB r_a0 r_a1 r_b0 r_b1 r_c0 r_c1 r_c2 r_c3 r_c4 r_d0 r_d1 r_d2 o_LS r_u0 r_u1 r_u2 r_u3 r_u4 r_u5 o_LW r_w0 S ⊢
        refine ⟨(show 3 ≤ sizeLine by decide), fun w1 h_w1 => ?_⟩
        have s_w1 : Sm Hq21 (upd Hq21 w1 (.tup [.str "val", .str name, .ref w0])) := Sm.new h_w1
        have r_w1 : Rp K (upd Hq21 w1 (.tup [.str "val", .str name, .ref w0])) (.ref w1) (.tuple _) := Rp.mk upd_same (RpAll.on (.cons sok (.cons (.str _ hnO) (.cons r_w0 .nil))) (KT.upd_new h_w1))
        replace hB := hB.keep fun a o e _ => s_w1 a o e
        replace r_a0 := r_a0.on (KT.same s_w1)
        replace r_a1 := r_a1.on (KT.same s_w1)
        replace r_b0 := r_b0.on (KT.same s_w1)
        replace r_b1 := r_b1.on (KT.same s_w1)
        replace r_c0 := r_c0.on (KT.same s_w1)
        replace r_c1 := r_c1.on (KT.same s_w1)
        replace r_c2 := r_c2.on (KT.same s_w1)
        replace r_c3 := r_c3.on (KT.same s_w1)
        replace r_c4 := r_c4.on (KT.same s_w1)
        replace r_d0 := r_d0.on (KT.same s_w1)
        replace r_d1 := r_d1.on (KT.same s_w1)
        replace r_d2 := r_d2.on (KT.same s_w1)
        replace o_LS := s_w1 _ _ o_LS
        replace r_u0 := r_u0.on (KT.same s_w1)
        replace r_u1 := r_u1.on (KT.same s_w1)
        replace r_u2 := r_u2.on (KT.same s_w1)
        replace r_u3 := r_u3.on (KT.same s_w1)
        replace r_u4 := r_u4.on (KT.same s_w1)
        replace r_u5 := r_u5.on (KT.same s_w1)
        replace o_LW := s_w1 _ _ o_LW
        replace r_w0 := r_w0.on (KT.same s_w1)
        replace S := S.sm s_w1
        clear h_w1
        clear s_w1
        generalize (upd Hq21 w1 (.tup [.str "val", .str name, .ref w0])) = Hq22 at hB r_a0 r_a1 r_b0 r_b1 r_c0 r_c1 r_c2 r_c3 r_c4 r_d0 r_d1 r_d2 o_LS r_u0 r_u1 r_u2 r_u3 r_u4 r_u5 o_LW r_w0 r_w1 S ⊢
        refine ⟨_, rfl, _, rfl, LW, _, _, _, rfl, rfl, SqL.of o_LW, rfl, (show 2 ≤ sizeLine by decide), fun w2 h_w2 => ?_⟩
        have s_w2 : Sm Hq22 (upd Hq22 w2 (.tup [.ref w1, .ref u0])) := Sm.new h_w2
        have r_w2 : Rp K (upd Hq22 w2 (.tup [.ref w1, .ref u0])) (.ref w2) (.tuple _) := Rp.mk upd_same (RpAll.on (.cons r_w1 (.cons r_u0 .nil)) (KT.upd_new h_w2))
        replace hB := hB.keep fun a o e _ => s_w2 a o e
        replace r_a0 := r_a0.on (KT.same s_w2)
        replace r_a1 := r_a1.on (KT.same s_w2)
        replace r_b0 := r_b0.on (KT.same s_w2)
        replace r_b1 := r_b1.on (KT.same s_w2)
        replace r_c0 := r_c0.on (KT.same s_w2)
        replace r_c1 := r_c1.on (KT.same s_w2)
        replace r_c2 := r_c2.on (KT.same s_w2)
        replace r_c3 := r_c3.on (KT.same s_w2)
        replace r_c4 := r_c4.on (KT.same s_w2)
        replace r_d0 := r_d0.on (KT.same s_w2)
        replace r_d1 := r_d1.on (KT.same s_w2)
        replace r_d2 := r_d2.on (KT.same s_w2)
        replace o_LS := s_w2 _ _ o_LS
        replace r_u0 := r_u0.on (KT.same s_w2)
        replace r_u1 := r_u1.on (KT.same s_w2)
        replace r_u2 := r_u2.on (KT.same s_w2)
        replace r_u3 := r_u3.on (KT.same s_w2)
        replace r_u4 := r_u4.on (KT.same s_w2)
        replace r_u5 := r_u5.on (KT.same s_w2)
        replace o_LW := s_w2 _ _ o_LW
        replace r_w0 := r_w0.on (KT.same s_w2)
        replace r_w1 := r_w1.on (KT.same s_w2)
        replace S := S.sm s_w2
        clear h_w2
        clear s_w2
        generalize (upd Hq22 w2 (.tup [.ref w1, .ref u0])) = Hq23 at hB r_a0 r_a1 r_b0 r_b1 r_c0 r_c1 r_c2 r_c3 r_c4 r_d0 r_d1 r_d2 o_LS r_u0 r_u1 r_u2 r_u3 r_u4 r_u5 o_LW r_w0 r_w1 r_w2 S ⊢
        exact k _ (.val name 0) _ S hB (by simpa [Rw.d, Rw.fv, Fv.d, valOf, Vl.d, shpOf, Sh.d, Sh.ds] using r_w2) rfl rfl (by simp only [Rw.wf]; exact ⟨hnA, by decide⟩) (Nat.zero_le _)
      · refine ⟨_, rfl, _, rfl, LS, _, _, _, rfl, rfl, SqL.of o_LS, rfl, (show 2 ≤ sizeLine by decide), fun w0 h_w0 => ?_⟩
        have s_w0 : Sm Hq20 (upd Hq20 w0 (.tup [.int (if decide (V.int 1 = V.int 3) = true then 1 else 0), .ref b1])) := Sm.new h_w0
        have r_w0 : Rp K (upd Hq20 w0 (.tup [.int (if decide (V.int 1 = V.int 3) = true then 1 else 0), .ref b1])) (.ref w0) (.tuple _) := Rp.mk upd_same (RpAll.on (.cons (.int _) (.cons r_b1 .nil)) (KT.upd_new h_w0))
        replace hB := hB.keep fun a o e _ => s_w0 a o e
        replace r_a0 := r_a0.on (KT.same s_w0)
        replace r_a1 := r_a1.on (KT.same s_w0)
        replace r_b0 := r_b0.on (KT.same s_w0)
        replace r_b1 := r_b1.on (KT.same s_w0)
        replace r_c0 := r_c0.on (KT.same s_w0)
        replace r_c1 := r_c1.on (KT.same s_w0)
        replace r_c2 := r_c2.on (KT.same s_w0)
        replace r_c3 := r_c3.on (KT.same s_w0)
        replace r_c4 := r_c4.on (KT.same s_w0)
        replace r_d0 := r_d0.on (KT.same s_w0)
        replace r_d1 := r_d1.on (KT.same s_w0)
        replace r_d2 := r_d2.on (KT.same s_w0)
        replace o_LS := s_w0 _ _ o_LS
        replace r_u0 := r_u0.on (KT.same s_w0)
        replace r_u1 := r_u1.on (KT.same s_w0)
        replace r_u2 := r_u2.on (KT.same s_w0)
        replace r_u3 := r_u3.on (KT.same s_w0)
        replace r_u4 := r_u4.on (KT.same s_w0)
        replace r_u5 := r_u5.on (KT.same s_w0)
        replace o_LW := s_w0 _ _ o_LW
        replace S := S.sm s_w0
        clear h_w0
        clear s_w0
        generalize (upd Hq20 w0 (.tup [.int (if decide (V.int 1 = V.int 3) = true then 1 else 0), .ref b1])) = Hq24 at hB r_a0 r_a1 r_b0 r_b1 r_c0 r_c1 r_c2 r_c3 r_c4 r_d0 r_d1 r_d2 o_LS r_u0 r_u1 r_u2 r_u3 r_u4 r_u5 o_LW r_w0 S ⊢
        refine ⟨(show 3 ≤ sizeLine by decide), fun w1 h_w1 => ?_⟩
        have s_w1 : Sm Hq24 (upd Hq24 w1 (.tup [.str "val", .str name, .ref w0])) := Sm.new h_w1
        have r_w1 : Rp K (upd Hq24 w1 (.tup [.str "val", .str name, .ref w0])) (.ref w1) (.tuple _) := Rp.mk upd_same (RpAll.on (.cons sok (.cons (.str _ hnO) (.cons r_w0 .nil))) (KT.upd_new h_w1))
        replace hB := hB.keep fun a o e _ => s_w1 a o e
        replace r_a0 := r_a0.on (KT.same s_w1)
        replace r_a1 := r_a1.on (KT.same s_w1)
        replace r_b0 := r_b0.on (KT.same s_w1)
        replace r_b1 := r_b1.on (KT.same s_w1)
        replace r_c0 := r_c0.on (KT.same s_w1)
        replace r_c1 := r_c1.on (KT.same s_w1)
        replace r_c2 := r_c2.on (KT.same s_w1)
        replace r_c3 := r_c3.on (KT.same s_w1)
        replace r_c4 := r_c4.on (KT.same s_w1)
        replace r_d0 := r_d0.on (KT.same s_w1)
        replace r_d1 := r_d1.on (KT.same s_w1)
        replace r_d2 := r_d2.on (KT.same s_w1)
        replace o_LS := s_w1 _ _ o_LS
        replace r_u0 := r_u0.on (KT.same s_w1)
        replace r_u1 := r_u1.on (KT.same s_w1)
        replace r_u2 := r_u2.on (KT.same s_w1)
        replace r_u3 := r_u3.on (KT.same s_w1)
        replace r_u4 := r_u4.on (KT.same s_w1)
        replace r_u5 := r_u5.on (KT.same s_w1)
        replace o_LW := s_w1 _ _ o_LW
        replace r_w0 := r_w0.on (KT.same s_w1)
        replace S := S.sm s_w1
        clear h_w1
        clear s_w1
        generalize (upd Hq24 w1 (.tup [.str "val", .str name, .ref w0])) = Hq25 at hB r_a0 r_a1 r_b0 r_b1 r_c0 r_c1 r_c2 r_c3 r_c4 r_d0 r_d1 r_d2 o_LS r_u0 r_u1 r_u2 r_u3 r_u4 r_u5 o_LW r_w0 r_w1 S ⊢
        refine ⟨_, rfl, _, rfl, LW, _, _, _, rfl, rfl, SqL.of o_LW, rfl, (show 2 ≤ sizeLine by decide), fun w2 h_w2 => ?_⟩
        have s_w2 : Sm Hq25 (upd Hq25 w2 (.tup [.ref w1, .ref u2])) := Sm.new h_w2
        have r_w2 : Rp K (upd Hq25 w2 (.tup [.ref w1, .ref u2])) (.ref w2) (.tuple _) := Rp.mk upd_same (RpAll.on (.cons r_w1 (.cons r_u2 .nil)) (KT.upd_new h_w2))
        replace hB := hB.keep fun a o e _ => s_w2 a o e
        replace r_a0 := r_a0.on (KT.same s_w2)
        replace r_a1 := r_a1.on (KT.same s_w2)
        replace r_b0 := r_b0.on (KT.same s_w2)
        replace r_b1 := r_b1.on (KT.same s_w2)
        replace r_c0 := r_c0.on (KT.same s_w2)
        replace r_c1 := r_c1.on (KT.same s_w2)
        replace r_c2 := r_c2.on (KT.same s_w2)
        replace r_c3 := r_c3.on (KT.same s_w2)
        replace r_c4 := r_c4.on (KT.same s_w2)
        replace r_d0 := r_d0.on (KT.same s_w2)
        replace r_d1 := r_d1.on (KT.same s_w2)
        replace r_d2 := r_d2.on (KT.same s_w2)
        replace o_LS := s_w2 _ _ o_LS
        replace r_u0 := r_u0.on (KT.same s_w2)
        replace r_u1 := r_u1.on (KT.same s_w2)
        replace r_u2 := r_u2.on (KT.same s_w2)
        replace r_u3 := r_u3.on (KT.same s_w2)
        replace r_u4 := r_u4.on (KT.same s_w2)
        replace r_u5 := r_u5.on (KT.same s_w2)
        replace o_LW := s_w2 _ _ o_LW
        replace r_w0 := r_w0.on (KT.same s_w2)
        replace r_w1 := r_w1.on (KT.same s_w2)
        replace S := S.sm s_w2
        clear h_w2
        clear s_w2
        generalize (upd Hq25 w2 (.tup [.ref w1, .ref u2])) = Hq26 at hB r_a0 r_a1 r_b0 r_b1 r_c0 r_c1 r_c2 r_c3 r_c4 r_d0 r_d1 r_d2 o_LS r_u0 r_u1 r_u2 r_u3 r_u4 r_u5 o_LW r_w0 r_w1 r_w2 S ⊢
        exact k _ (.val name 1) _ S hB (by simpa [Rw.d, Rw.fv, Fv.d, valOf, Vl.d, Vl.ds, shpOf, Sh.d, Sh.ds] using r_w2) rfl rfl (by simp only [Rw.wf]; exact ⟨hnA, by decide⟩) (Nat.zero_le _)
      · refine ⟨_, rfl, _, rfl, LS, _, _, _, rfl, rfl, SqL.of o_LS, rfl, (show 2 ≤ sizeLine by decide), fun w0 h_w0 => ?_⟩
        have s_w0 : Sm Hq20 (upd Hq20 w0 (.tup [.int (if decide (V.int 2 = V.int 3) = true then 1 else 0), .ref c4])) := Sm.new h_w0
        have r_w0 : Rp K (upd Hq20 w0 (.tup [.int (if decide (V.int 2 = V.int 3) = true then 1 else 0), .ref c4])) (.ref w0) (.tuple _) := Rp.mk upd_same (RpAll.on (.cons (.int _) (.cons r_c4 .nil)) (KT.upd_new h_w0))
        replace hB := hB.keep fun a o e _ => s_w0 a o e
        replace r_a0 := r_a0.on (KT.same s_w0)
        replace r_a1 := r_a1.on (KT.same s_w0)
        replace r_b0 := r_b0.on (KT.same s_w0)
        replace r_b1 := r_b1.on (KT.same s_w0)
        replace r_c0 := r_c0.on (KT.same s_w0)
        replace r_c1 := r_c1.on (KT.same s_w0)
        replace r_c2 := r_c2.on (KT.same s_w0)
        replace r_c3 := r_c3.on (KT.same s_w0)
        replace r_c4 := r_c4.on (KT.same s_w0)
        replace r_d0 := r_d0.on (KT.same s_w0)
        replace r_d1 := r_d1.on (KT.same s_w0)
        replace r_d2 := r_d2.on (KT.same s_w0)
        replace o_LS := s_w0 _ _ o_LS
        replace r_u0 := r_u0.on (KT.same s_w0)
        replace r_u1 := r_u1.on (KT.same s_w0)
        replace r_u2 := r_u2.on (KT.same s_w0)
        replace r_u3 := r_u3.on (KT.same s_w0)
        replace r_u4 := r_u4.on (KT.same s_w0)
        replace r_u5 := r_u5.on (KT.same s_w0)
        replace o_LW := s_w0 _ _ o_LW
        replace S := S.sm s_w0
        clear h_w0
        clear s_w0
        generalize (upd Hq20 w0 (.tup [.int (if decide (V.int 2 = V.int 3) = true then 1 else 0), .ref c4])) = Hq27 at hB r_a0 r_a1 r_b0 r_b1 r_c0 r_c1 r_c2 r_c3 r_c4 r_d0 r_d1 r_d2 o_LS r_u0 r_u1 r_u2 r_u3 r_u4 r_u5 o_LW r_w0 S ⊢
        refine ⟨(show 3 ≤ sizeLine by decide), fun w1 h_w1 => ?_⟩
        have s_w1 : Sm Hq27 (upd Hq27 w1 (.tup [.str "val", .str name, .ref w0])) := Sm.new h_w1
        have r_w1 : Rp K (upd Hq27 w1 (.tup [.str "val", .str name, .ref w0])) (.ref w1) (.tuple _) := Rp.mk upd_same (RpAll.on (.cons sok (.cons (.str _ hnO) (.cons r_w0 .nil))) (KT.upd_new h_w1))
        replace hB := hB.keep fun a o e _ => s_w1 a o e
        replace r_a0 := r_a0.on (KT.same s_w1)
        replace r_a1 := r_a1.on (KT.same s_w1)
        replace r_b0 := r_b0.on (KT.same s_w1)
        replace r_b1 := r_b1.on (KT.same s_w1)
        replace r_c0 := r_c0.on (KT.same s_w1)
        replace r_c1 := r_c1.on (KT.same s_w1)
        replace r_c2 := r_c2.on (KT.same s_w1)
        replace r_c3 := r_c3.on (KT.same s_w1)
        replace r_c4 := r_c4.on (KT.same s_w1)
        replace r_d0 := r_d0.on (KT.same s_w1)
        replace r_d1 := r_d1.on (KT.same s_w1)
        replace r_d2 := r_d2.on (KT.same s_w1)
        replace o_LS := s_w1 _ _ o_LS
        replace r_u0 := r_u0.on (KT.same s_w1)
        replace r_u1 := r_u1.on (KT.same s_w1)
        replace r_u2 := r_u2.on (KT.same s_w1)
        replace r_u3 := r_u3.on (KT.same s_w1)
        replace r_u4 := r_u4.on (KT.same s_w1)
        replace r_u5 := r_u5.on (KT.same s_w1)
        replace o_LW := s_w1 _ _ o_LW
        replace r_w0 := r_w0.on (KT.same s_w1)
        replace S := S.sm s_w1
        clear h_w1
        clear s_w1
        generalize (upd Hq27 w1 (.tup [.str "val", .str name, .ref w0])) = Hq28 at hB r_a0 r_a1 r_b0 r_b1 r_c0 r_c1 r_c2 r_c3 r_c4 r_d0 r_d1 r_d2 o_LS r_u0 r_u1 r_u2 r_u3 r_u4 r_u5 o_LW r_w0 r_w1 S ⊢
        refine ⟨_, rfl, _, rfl, LW, _, _, _, rfl, rfl, SqL.of o_LW, rfl, (show 2 ≤ sizeLine by decide), fun w2 h_w2 => ?_⟩
        have s_w2 : Sm Hq28 (upd Hq28 w2 (.tup [.ref w1, .ref u4])) := Sm.new h_w2
        have r_w2 : Rp K (upd Hq28 w2 (.tup [.ref w1, .ref u4])) (.ref w2) (.tuple _) := Rp.mk upd_same (RpAll.on (.cons r_w1 (.cons r_u4 .nil)) (KT.upd_new h_w2))
        replace hB := hB.keep fun a o e _ => s_w2 a o e
        replace r_a0 := r_a0.on (KT.same s_w2)
        replace r_a1 := r_a1.on (KT.same s_w2)
        replace r_b0 := r_b0.on (KT.same s_w2)
        replace r_b1 := r_b1.on (KT.same s_w2)
        replace r_c0 := r_c0.on (KT.same s_w2)
        replace r_c1 := r_c1.on (KT.same s_w2)
        replace r_c2 := r_c2.on (KT.same s_w2)
        replace r_c3 := r_c3.on (KT.same s_w2)
        replace r_c4 := r_c4.on (KT.same s_w2)
        replace r_d0 := r_d0.on (KT.same s_w2)
        replace r_d1 := r_d1.on (KT.same s_w2)
        replace r_d2 := r_d2.on (KT.same s_w2)
        replace o_LS := s_w2 _ _ o_LS
        replace r_u0 := r_u0.on (KT.same s_w2)
        replace r_u1 := r_u1.on (KT.same s_w2)
        replace r_u2 := r_u2.on (KT.same s_w2)
        replace r_u3 := r_u3.on (KT.same s_w2)
        replace r_u4 := r_u4.on (KT.same s_w2)
        replace r_u5 := r_u5.on (KT.same s_w2)
        replace o_LW := s_w2 _ _ o_LW
        replace r_w0 := r_w0.on (KT.same s_w2)
        replace r_w1 := r_w1.on (KT.same s_w2)
        replace S := S.sm s_w2
        clear h_w2
        clear s_w2
        generalize (upd Hq28 w2 (.tup [.ref w1, .ref u4])) = Hq29 at hB r_a0 r_a1 r_b0 r_b1 r_c0 r_c1 r_c2 r_c3 r_c4 r_d0 r_d1 r_d2 o_LS r_u0 r_u1 r_u2 r_u3 r_u4 r_u5 o_LW r_w0 r_w1 r_w2 S ⊢
        exact k _ (.val name 2) _ S hB (by simpa [Rw.d, Rw.fv, Fv.d, valOf, funV, Vl.d, shpOf, Sh.d, Sh.ds] using r_w2) rfl rfl (by simp only [Rw.wf]; exact ⟨hnA, by decide⟩) (Nat.zero_le _)
      · refine ⟨_, rfl, _, rfl, LS, _, _, _, rfl, rfl, SqL.of o_LS, rfl, (show 2 ≤ sizeLine by decide), fun w0 h_w0 => ?_⟩
        have s_w0 : Sm Hq20 (upd Hq20 w0 (.tup [.int (if decide (V.int 3 = V.int 3) = true then 1 else 0), .ref d2])) := Sm.new h_w0
        have r_w0 : Rp K (upd Hq20 w0 (.tup [.int (if decide (V.int 3 = V.int 3) = true then 1 else 0), .ref d2])) (.ref w0) (.tuple _) := Rp.mk upd_same (RpAll.on (.cons (.int _) (.cons r_d2 .nil)) (KT.upd_new h_w0))
        replace hB := hB.keep fun a o e _ => s_w0 a o e
        replace r_a0 := r_a0.on (KT.same s_w0)
        replace r_a1 := r_a1.on (KT.same s_w0)
        replace r_b0 := r_b0.on (KT.same s_w0)
        replace r_b1 := r_b1.on (KT.same s_w0)
        replace r_c0 := r_c0.on (KT.same s_w0)
        replace r_c1 := r_c1.on (KT.same s_w0)
        replace r_c2 := r_c2.on (KT.same s_w0)
        replace r_c3 := r_c3.on (KT.same s_w0)
        replace r_c4 := r_c4.on (KT.same s_w0)
        replace r_d0 := r_d0.on (KT.same s_w0)
        replace r_d1 := r_d1.on (KT.same s_w0)
        replace r_d2 := r_d2.on (KT.same s_w0)
        replace o_LS := s_w0 _ _ o_LS
        replace r_u0 := r_u0.on (KT.same s_w0)
        replace r_u1 := r_u1.on (KT.same s_w0)
        replace r_u2 := r_u2.on (KT.same s_w0)
        replace r_u3 := r_u3.on (KT.same s_w0)
        replace r_u4 := r_u4.on (KT.same s_w0)
        replace r_u5 := r_u5.on (KT.same s_w0)
        replace o_LW := s_w0 _ _ o_LW
        replace S := S.sm s_w0
        clear h_w0
        clear s_w0
        generalize (upd Hq20 w0 (.tup [.int (if decide (V.int 3 = V.int 3) = true then 1 else 0), .ref d2])) = Hq30 at hB r_a0 r_a1 r_b0 r_b1 r_c0 r_c1 r_c2 r_c3 r_c4 r_d0 r_d1 r_d2 o_LS r_u0 r_u1 r_u2 r_u3 r_u4 r_u5 o_LW r_w0 S ⊢
        refine ⟨(show 3 ≤ sizeLine by decide), fun w1 h_w1 => ?_⟩
        have s_w1 : Sm Hq30 (upd Hq30 w1 (.tup [.str "val", .str name, .ref w0])) := Sm.new h_w1
        have r_w1 : Rp K (upd Hq30 w1 (.tup [.str "val", .str name, .ref w0])) (.ref w1) (.tuple _) := Rp.mk upd_same (RpAll.on (.cons sok (.cons (.str _ hnO) (.cons r_w0 .nil))) (KT.upd_new h_w1))
        replace hB := hB.keep fun a o e _ => s_w1 a o e
        replace r_a0 := r_a0.on (KT.same s_w1)
        replace r_a1 := r_a1.on (KT.same s_w1)
        replace r_b0 := r_b0.on (KT.same s_w1)
        replace r_b1 := r_b1.on (KT.same s_w1)
        replace r_c0 := r_c0.on (KT.same s_w1)
        replace r_c1 := r_c1.on (KT.same s_w1)
        replace r_c2 := r_c2.on (KT.same s_w1)
        replace r_c3 := r_c3.on (KT.same s_w1)
        replace r_c4 := r_c4.on (KT.same s_w1)
        replace r_d0 := r_d0.on (KT.same s_w1)
        replace r_d1 := r_d1.on (KT.same s_w1)
        replace r_d2 := r_d2.on (KT.same s_w1)
        replace o_LS := s_w1 _ _ o_LS
        replace r_u0 := r_u0.on (KT.same s_w1)
        replace r_u1 := r_u1.on (KT.same s_w1)
        replace r_u2 := r_u2.on (KT.same s_w1)
        replace r_u3 := r_u3.on (KT.same s_w1)
        replace r_u4 := r_u4.on (KT.same s_w1)
        replace r_u5 := r_u5.on (KT.same s_w1)
        replace o_LW := s_w1 _ _ o_LW
        replace r_w0 := r_w0.on (KT.same s_w1)
        replace S := S.sm s_w1
        clear h_w1
        clear s_w1
        generalize (upd Hq30 w1 (.tup [.str "val", .str name, .ref w0])) = Hq31 at hB r_a0 r_a1 r_b0 r_b1 r_c0 r_c1 r_c2 r_c3 r_c4 r_d0 r_d1 r_d2 o_LS r_u0 r_u1 r_u2 r_u3 r_u4 r_u5 o_LW r_w0 r_w1 S ⊢
        refine ⟨_, rfl, _, rfl, LW, _, _, _, rfl, rfl, SqL.of o_LW, rfl, (show 2 ≤ sizeLine by decide), fun w2 h_w2 => ?_⟩
        have s_w2 : Sm Hq31 (upd Hq31 w2 (.tup [.ref w1, .ref u5])) := Sm.new h_w2
        have r_w2 : Rp K (upd Hq31 w2 (.tup [.ref w1, .ref u5])) (.ref w2) (.tuple _) := Rp.mk upd_same (RpAll.on (.cons r_w1 (.cons r_u5 .nil)) (KT.upd_new h_w2))
        replace hB := hB.keep fun a o e _ => s_w2 a o e
        replace r_a0 := r_a0.on (KT.same s_w2)
        replace r_a1 := r_a1.on (KT.same s_w2)
        replace r_b0 := r_b0.on (KT.same s_w2)
        replace r_b1 := r_b1.on (KT.same s_w2)
        replace r_c0 := r_c0.on (KT.same s_w2)
        replace r_c1 := r_c1.on (KT.same s_w2)
        replace r_c2 := r_c2.on (KT.same s_w2)
        replace r_c3 := r_c3.on (KT.same s_w2)
        replace r_c4 := r_c4.on (KT.same s_w2)
        replace r_d0 := r_d0.on (KT.same s_w2)
        replace r_d1 := r_d1.on (KT.same s_w2)
        replace r_d2 := r_d2.on (KT.same s_w2)
        replace o_LS := s_w2 _ _ o_LS
        replace r_u0 := r_u0.on (KT.same s_w2)
        replace r_u1 := r_u1.on (KT.same s_w2)
        replace r_u2 := r_u2.on (KT.same s_w2)
        replace r_u3 := r_u3.on (KT.same s_w2)
        replace r_u4 := r_u4.on (KT.same s_w2)
        replace r_u5 := r_u5.on (KT.same s_w2)
        replace o_LW := s_w2 _ _ o_LW
        replace r_w0 := r_w0.on (KT.same s_w2)
        replace r_w1 := r_w1.on (KT.same s_w2)
        replace S := S.sm s_w2
        clear h_w2
        clear s_w2
        generalize (upd Hq31 w2 (.tup [.ref w1, .ref u5])) = Hq32 at hB r_a0 r_a1 r_b0 r_b1 r_c0 r_c1 r_c2 r_c3 r_c4 r_d0 r_d1 r_d2 o_LS r_u0 r_u1 r_u2 r_u3 r_u4 r_u5 o_LW r_w0 r_w1 r_w2 S ⊢
        exact k _ (.val name 3) _ S hB (by simpa [Rw.d, Rw.fv, Fv.d, valOf, Vl.d, shpOf, Sh.d, Sh.ds] using r_w2) rfl rfl (by simp only [Rw.wf]; exact ⟨hnA, by decide⟩) (Nat.zero_le _)
    · -- exceptions
      refine ⟨_, rfl, rfl, _, rfl, iteN n_ve ?_⟩
      refine ⟨_, rfl, rfl, _, rfl, iteY (y_s _) ?_⟩
      refine ⟨_, rfl, Nat.zero_le _, fun e0 h_e0 => ?_⟩
      have s_e0 : Sm H1 (upd H1 e0 (.tup [])) := Sm.new h_e0
      have r_e0 : Rp K (upd H1 e0 (.tup [])) (.ref e0) (.tuple _) := Rp.mk upd_same (RpAll.on (.nil) (KT.upd_new h_e0))
      replace hB := hB.keep fun a o e _ => s_e0 a o e
      replace S := S.sm s_e0
      clear h_e0
      clear s_e0
      generalize (upd H1 e0 (.tup [])) = Hq33 at hB r_e0 S ⊢
      refine ⟨(show 3 ≤ sizeLine by decide), fun e1 h_e1 => ?_⟩
      have s_e1 : Sm Hq33 (upd Hq33 e1 (.tup [.str "c", .int 0, .ref e0])) := Sm.new h_e1
      have r_e1 : Rp K (upd Hq33 e1 (.tup [.str "c", .int 0, .ref e0])) (.ref e1) (.tuple _) := Rp.mk upd_same (RpAll.on (.cons sok (.cons (.int _) (.cons r_e0 .nil))) (KT.upd_new h_e1))
      replace hB := hB.keep fun a o e _ => s_e1 a o e
      replace r_e0 := r_e0.on (KT.same s_e1)
      replace S := S.sm s_e1
      clear h_e1
      clear s_e1
      generalize (upd Hq33 e1 (.tup [.str "c", .int 0, .ref e0])) = Hq34 at hB r_e0 r_e1 S ⊢
      refine ⟨(show 2 ≤ sizeLine by decide), fun LE h_LE => ?_⟩
      have s_LE : Sm Hq34 (upd Hq34 LE (.lst [.non, .ref e1])) := Sm.new h_LE
      have o_LE : (upd Hq34 LE (.lst [.non, .ref e1])) LE = some (.lst [.non, .ref e1]) := upd_same
      replace hB := hB.keep fun a o e _ => s_LE a o e
      replace r_e0 := r_e0.on (KT.same s_LE)
      replace r_e1 := r_e1.on (KT.same s_LE)
      replace S := S.sm s_LE
      clear h_LE
      clear s_LE
      generalize (upd Hq34 LE (.lst [.non, .ref e1])) = Hq35 at hB r_e0 r_e1 o_LE S ⊢
      have hm : ∃ (x : V) (a : Bool), atI [V.non, .ref e1] (kd % 2) = some x ∧ Rp K Hq35 x (if a then (Sh.c 0 []).d else .none) := by
        have h2 : kd % 2 = 0 ∨ kd % 2 = 1 := by omega
        rcases h2 with h | h
        · exact ⟨_, false, by rw [h]; rfl, .non⟩
        · exact ⟨_, true, by rw [h]; rfl, by simpa [Sh.d, Sh.ds] using r_e1⟩
      obtain ⟨x, a, hat, r_x⟩ := hm
      refine ⟨_, rfl, _, _, rfl, rfl, (show (0 : Int) < 2 by decide), LE, _, _, _, rfl, rfl, SqL.of o_LE, hat, (show 3 ≤ sizeLine by decide), fun w1 h_w1 => ?_⟩
      have s_w1 : Sm Hq35 (upd Hq35 w1 (.tup [.str "exn", .str name, x])) := Sm.new h_w1
      have r_w1 : Rp K (upd Hq35 w1 (.tup [.str "exn", .str name, x])) (.ref w1) (.tuple _) := Rp.mk upd_same (RpAll.on (.cons sok (.cons (.str _ hnO) (.cons r_x .nil))) (KT.upd_new h_w1))
      replace hB := hB.keep fun a o e _ => s_w1 a o e
      replace r_e0 := r_e0.on (KT.same s_w1)
      replace r_e1 := r_e1.on (KT.same s_w1)
      replace o_LE := s_w1 _ _ o_LE
      replace r_x := r_x.on (KT.same s_w1)
      replace S := S.sm s_w1
      clear h_w1
      clear s_w1
      generalize (upd Hq35 w1 (.tup [.str "exn", .str name, x])) = Hq36 at hB r_e0 r_e1 o_LE r_x r_w1 S ⊢
      refine ⟨_, rfl, _, _, rfl, rfl, _, rfl, (show 3 ≤ sizeLine by decide), fun w2 h_w2 => ?_⟩
      have s_w2 : Sm Hq36 (upd Hq36 w2 (.tup [.str "exn", .int (4 + kd), .str name])) := Sm.new h_w2
      have r_w2 : Rp K (upd Hq36 w2 (.tup [.str "exn", .int (4 + kd), .str name])) (.ref w2) (.tuple _) := Rp.mk upd_same (RpAll.on (.cons sok (.cons (.int _) (.cons (.str _ hnO) .nil))) (KT.upd_new h_w2))
      replace hB := hB.keep fun a o e _ => s_w2 a o e
      replace r_e0 := r_e0.on (KT.same s_w2)
      replace r_e1 := r_e1.on (KT.same s_w2)
      replace o_LE := s_w2 _ _ o_LE
      replace r_x := r_x.on (KT.same s_w2)
      replace r_w1 := r_w1.on (KT.same s_w2)
      replace S := S.sm s_w2
      clear h_w2
      clear s_w2
      generalize (upd Hq36 w2 (.tup [.str "exn", .int (4 + kd), .str name])) = Hq37 at hB r_e0 r_e1 o_LE r_x r_w1 r_w2 S ⊢
      refine ⟨(show 2 ≤ sizeLine by decide), fun w3 h_w3 => ?_⟩
      have s_w3 : Sm Hq37 (upd Hq37 w3 (.tup [.ref w1, .ref w2])) := Sm.new h_w3
      have r_w3 : Rp K (upd Hq37 w3 (.tup [.ref w1, .ref w2])) (.ref w3) (.tuple _) := Rp.mk upd_same (RpAll.on (.cons r_w1 (.cons r_w2 .nil)) (KT.upd_new h_w3))
      replace hB := hB.keep fun a o e _ => s_w3 a o e
      replace r_e0 := r_e0.on (KT.same s_w3)
      replace r_e1 := r_e1.on (KT.same s_w3)
      replace o_LE := s_w3 _ _ o_LE
      replace r_x := r_x.on (KT.same s_w3)
      replace r_w1 := r_w1.on (KT.same s_w3)
      replace r_w2 := r_w2.on (KT.same s_w3)
      replace S := S.sm s_w3
      clear h_w3
      clear s_w3
      generalize (upd Hq37 w3 (.tup [.ref w1, .ref w2])) = Hq38 at hB r_e0 r_e1 o_LE r_x r_w1 r_w2 r_w3 S ⊢
      exact k _ (.exn name a (4 + kd)) _ S hB (by simpa [Rw.d, Rw.fv, Fv.d] using r_w3) rfl rfl (by simp only [Rw.wf]; exact hnA) (Nat.zero_le _)
    · -- modules
      refine ⟨_, rfl, rfl, _, rfl, iteN n_vm ?_⟩
      refine ⟨_, rfl, rfl, _, rfl, iteN n_em ?_⟩
      refine ⟨_, rfl, rfl, _, rfl, iteN (by decide +kernel) ?_⟩
      obtain ⟨n, rfl⟩ : ∃ j, n = j + 1 := ⟨n - 1, by have := hk2 rfl; omega⟩
      refine ⟨_, rfl, _, rfl, _, _, rfl, rfl, b, c, deep - 1, rfl, by omega, hB, fun res rs H2 s2 hB2 r_res hwf hsrt hlen hdeps => ?_⟩
      replace S := S.trans s2
      replace hB := hB2
      obtain ⟨t, ts, rfl, st, rt⟩ := r_res.tup_inv
      obtain ⟨x, t1, rfl, r_x, rt⟩ := rt.cons_inv
      obtain ⟨y, t2, rfl, r_y, rt⟩ := rt.cons_inv
      have et := rt.nil_inv
      subst et
      obtain ⟨xa, xas, rfl, _⟩ := r_x.tup_inv
      obtain ⟨ya, yas, rfl, _⟩ := r_y.tup_inv
      refine ⟨t, _, rfl, st, rfl, .ref xa, [.ref ya], rfl, .ref ya, [], rfl, rfl, ?_⟩
      clear st rt r_res
      refine ⟨_, rfl, _, rfl, (show 3 ≤ sizeLine by decide), fun w1 h_w1 => ?_⟩
      have s_w1 : Sm H2 (upd H2 w1 (.tup [.str "module", .str name, .ref xa])) := Sm.new h_w1
      have r_w1 : Rp K (upd H2 w1 (.tup [.str "module", .str name, .ref xa])) (.ref w1) (.tuple _) := Rp.mk upd_same (RpAll.on (.cons sok (.cons (.str _ hnO) (.cons r_x .nil))) (KT.upd_new h_w1))
      replace hB := hB.keep fun a o e _ => s_w1 a o e
      replace r_x := r_x.on (KT.same s_w1)
      replace r_y := r_y.on (KT.same s_w1)
      replace S := S.sm s_w1
      clear h_w1
      clear s_w1
      generalize (upd H2 w1 (.tup [.str "module", .str name, .ref xa])) = Hq39 at hB r_x r_y r_w1 S ⊢
      refine ⟨_, rfl, (show 2 ≤ sizeLine by decide), fun w2 h_w2 => ?_⟩
      have s_w2 : Sm Hq39 (upd Hq39 w2 (.tup [.str "record", .ref ya])) := Sm.new h_w2
      have r_w2 : Rp K (upd Hq39 w2 (.tup [.str "record", .ref ya])) (.ref w2) (.tuple _) := Rp.mk upd_same (RpAll.on (.cons sok (.cons r_y .nil)) (KT.upd_new h_w2))
      replace hB := hB.keep fun a o e _ => s_w2 a o e
      replace r_x := r_x.on (KT.same s_w2)
      replace r_y := r_y.on (KT.same s_w2)
      replace r_w1 := r_w1.on (KT.same s_w2)
      replace S := S.sm s_w2
      clear h_w2
      clear s_w2
      generalize (upd Hq39 w2 (.tup [.str "record", .ref ya])) = Hq40 at hB r_x r_y r_w1 r_w2 S ⊢
      refine ⟨(show 2 ≤ sizeLine by decide), fun w3 h_w3 => ?_⟩
      have s_w3 : Sm Hq40 (upd Hq40 w3 (.tup [.ref w1, .ref w2])) := Sm.new h_w3
      have r_w3 : Rp K (upd Hq40 w3 (.tup [.ref w1, .ref w2])) (.ref w3) (.tuple _) := Rp.mk upd_same (RpAll.on (.cons r_w1 (.cons r_w2 .nil)) (KT.upd_new h_w3))
      replace hB := hB.keep fun a o e _ => s_w3 a o e
      replace r_x := r_x.on (KT.same s_w3)
      replace r_y := r_y.on (KT.same s_w3)
      replace r_w1 := r_w1.on (KT.same s_w3)
      replace r_w2 := r_w2.on (KT.same s_w3)
      replace S := S.sm s_w3
      clear h_w3
      clear s_w3
      generalize (upd Hq40 w3 (.tup [.ref w1, .ref w2])) = Hq41 at hB r_x r_y r_w1 r_w2 r_w3 S ⊢
      exact k _ (.mod name rs) _ S hB (by simpa [Rw.d, Rw.fv, Fv.d] using r_w3) rfl rfl (by simp only [Rw.wf]; exact ⟨hnA, hwf, hsrt, hlen⟩) (by simp only [Rw.dep]; omega)
    · -- functors
      refine ⟨_, rfl, rfl, _, rfl, iteN n_vf ?_⟩
      refine ⟨_, rfl, rfl, _, rfl, iteN n_ef ?_⟩
      refine ⟨_, rfl, rfl, _, rfl, iteY (y_s _) ?_⟩
      refine ⟨_, rfl, Nat.zero_le _, fun p0 h_p0 => ?_⟩
      have s_p0 : Sm H1 (upd H1 p0 (.tup [])) := Sm.new h_p0
      have r_p0 : Rp K (upd H1 p0 (.tup [])) (.ref p0) (.tuple _) := Rp.mk upd_same (RpAll.on (.nil) (KT.upd_new h_p0))
      replace hB := hB.keep fun a o e _ => s_p0 a o e
      replace S := S.sm s_p0
      clear h_p0
      clear s_p0
      generalize (upd H1 p0 (.tup [])) = Hq42 at hB r_p0 S ⊢
      refine ⟨Nat.zero_le _, fun p1 h_p1 => ?_⟩
      have s_p1 : Sm Hq42 (upd Hq42 p1 (.tup [])) := Sm.new h_p1
      have r_p1 : Rp K (upd Hq42 p1 (.tup [])) (.ref p1) (.tuple _) := Rp.mk upd_same (RpAll.on (.nil) (KT.upd_new h_p1))
      replace hB := hB.keep fun a o e _ => s_p1 a o e
      replace r_p0 := r_p0.on (KT.same s_p1)
      replace S := S.sm s_p1
      clear h_p1
      clear s_p1
      generalize (upd Hq42 p1 (.tup [])) = Hq43 at hB r_p0 r_p1 S ⊢
      refine ⟨(show 2 ≤ sizeLine by decide), fun p2 h_p2 => ?_⟩
      have s_p2 : Sm Hq43 (upd Hq43 p2 (.tup [.ref p0, .ref p1])) := Sm.new h_p2
      have r_p2 : Rp K (upd Hq43 p2 (.tup [.ref p0, .ref p1])) (.ref p2) (.tuple _) := Rp.mk upd_same (RpAll.on (.cons r_p0 (.cons r_p1 .nil)) (KT.upd_new h_p2))
      replace hB := hB.keep fun a o e _ => s_p2 a o e
      replace r_p0 := r_p0.on (KT.same s_p2)
      replace r_p1 := r_p1.on (KT.same s_p2)
      replace S := S.sm s_p2
      clear h_p2
      clear s_p2
      generalize (upd Hq43 p2 (.tup [.ref p0, .ref p1])) = Hq44 at hB r_p0 r_p1 r_p2 S ⊢
      refine ⟨Nat.zero_le _, fun p3 h_p3 => ?_⟩
      have s_p3 : Sm Hq44 (upd Hq44 p3 (.tup [])) := Sm.new h_p3
      have r_p3 : Rp K (upd Hq44 p3 (.tup [])) (.ref p3) (.tuple _) := Rp.mk upd_same (RpAll.on (.nil) (KT.upd_new h_p3))
      replace hB := hB.keep fun a o e _ => s_p3 a o e
      replace r_p0 := r_p0.on (KT.same s_p3)
      replace r_p1 := r_p1.on (KT.same s_p3)
      replace r_p2 := r_p2.on (KT.same s_p3)
      replace S := S.sm s_p3
      clear h_p3
      clear s_p3
      generalize (upd Hq44 p3 (.tup [])) = Hq45 at hB r_p0 r_p1 r_p2 r_p3 S ⊢
      refine ⟨Nat.zero_le _, fun p4 h_p4 => ?_⟩
      have s_p4 : Sm Hq45 (upd Hq45 p4 (.tup [])) := Sm.new h_p4
      have r_p4 : Rp K (upd Hq45 p4 (.tup [])) (.ref p4) (.tuple _) := Rp.mk upd_same (RpAll.on (.nil) (KT.upd_new h_p4))
      replace hB := hB.keep fun a o e _ => s_p4 a o e
      replace r_p0 := r_p0.on (KT.same s_p4)
      replace r_p1 := r_p1.on (KT.same s_p4)
      replace r_p2 := r_p2.on (KT.same s_p4)
      replace r_p3 := r_p3.on (KT.same s_p4)
      replace S := S.sm s_p4
      clear h_p4
      clear s_p4
      generalize (upd Hq45 p4 (.tup [])) = Hq46 at hB r_p0 r_p1 r_p2 r_p3 r_p4 S ⊢
      refine ⟨(show 5 ≤ sizeLine by decide), fun w1 h_w1 => ?_⟩
      have s_w1 : Sm Hq46 (upd Hq46 w1 (.tup [.str "functor", .str name, .ref p2, .ref p3, .ref p4])) := Sm.new h_w1
      have r_w1 : Rp K (upd Hq46 w1 (.tup [.str "functor", .str name, .ref p2, .ref p3, .ref p4])) (.ref w1) (.tuple _) := Rp.mk upd_same (RpAll.on (.cons sok (.cons (.str _ hnO) (.cons r_p2 (.cons r_p3 (.cons r_p4 .nil))))) (KT.upd_new h_w1))
      replace hB := hB.keep fun a o e _ => s_w1 a o e
      replace r_p0 := r_p0.on (KT.same s_w1)
      replace r_p1 := r_p1.on (KT.same s_w1)
      replace r_p2 := r_p2.on (KT.same s_w1)
      replace r_p3 := r_p3.on (KT.same s_w1)
      replace r_p4 := r_p4.on (KT.same s_w1)
      replace S := S.sm s_w1
      clear h_w1
      clear s_w1
      generalize (upd Hq46 w1 (.tup [.str "functor", .str name, .ref p2, .ref p3, .ref p4])) = Hq47 at hB r_p0 r_p1 r_p2 r_p3 r_p4 r_w1 S ⊢
      refine ⟨(show 2 ≤ sizeLine by decide), fun p5 h_p5 => ?_⟩
      have s_p5 : Sm Hq47 (upd Hq47 p5 (.tup [.str "var", .str "mod X"])) := Sm.new h_p5
      have r_p5 : Rp K (upd Hq47 p5 (.tup [.str "var", .str "mod X"])) (.ref p5) (.tuple _) := Rp.mk upd_same (RpAll.on (.cons sok (.cons sok .nil)) (KT.upd_new h_p5))
      replace hB := hB.keep fun a o e _ => s_p5 a o e
      replace r_p0 := r_p0.on (KT.same s_p5)
      replace r_p1 := r_p1.on (KT.same s_p5)
      replace r_p2 := r_p2.on (KT.same s_p5)
      replace r_p3 := r_p3.on (KT.same s_p5)
      replace r_p4 := r_p4.on (KT.same s_p5)
      replace r_w1 := r_w1.on (KT.same s_p5)
      replace S := S.sm s_p5
      clear h_p5
      clear s_p5
      generalize (upd Hq47 p5 (.tup [.str "var", .str "mod X"])) = Hq48 at hB r_p0 r_p1 r_p2 r_p3 r_p4 r_w1 r_p5 S ⊢
      refine ⟨(show 4 ≤ sizeLine by decide), fun w2 h_w2 => ?_⟩
      have s_w2 : Sm Hq48 (upd Hq48 w2 (.tup [.str "fun", .str "mod X", .ref p5, .non])) := Sm.new h_w2
      have r_w2 : Rp K (upd Hq48 w2 (.tup [.str "fun", .str "mod X", .ref p5, .non])) (.ref w2) (.tuple _) := Rp.mk upd_same (RpAll.on (.cons sok (.cons sok (.cons r_p5 (.cons .non .nil)))) (KT.upd_new h_w2))
      replace hB := hB.keep fun a o e _ => s_w2 a o e
      replace r_p0 := r_p0.on (KT.same s_w2)
      replace r_p1 := r_p1.on (KT.same s_w2)
      replace r_p2 := r_p2.on (KT.same s_w2)
      replace r_p3 := r_p3.on (KT.same s_w2)
      replace r_p4 := r_p4.on (KT.same s_w2)
      replace r_w1 := r_w1.on (KT.same s_w2)
      replace r_p5 := r_p5.on (KT.same s_w2)
      replace S := S.sm s_w2
      clear h_w2
      clear s_w2
      generalize (upd Hq48 w2 (.tup [.str "fun", .str "mod X", .ref p5, .non])) = Hq49 at hB r_p0 r_p1 r_p2 r_p3 r_p4 r_w1 r_p5 r_w2 S ⊢
      refine ⟨(show 2 ≤ sizeLine by decide), fun w3 h_w3 => ?_⟩
      have s_w3 : Sm Hq49 (upd Hq49 w3 (.tup [.ref w1, .ref w2])) := Sm.new h_w3
      have r_w3 : Rp K (upd Hq49 w3 (.tup [.ref w1, .ref w2])) (.ref w3) (.tuple _) := Rp.mk upd_same (RpAll.on (.cons r_w1 (.cons r_w2 .nil)) (KT.upd_new h_w3))
      replace hB := hB.keep fun a o e _ => s_w3 a o e
      replace r_p0 := r_p0.on (KT.same s_w3)
      replace r_p1 := r_p1.on (KT.same s_w3)
      replace r_p2 := r_p2.on (KT.same s_w3)
      replace r_p3 := r_p3.on (KT.same s_w3)
      replace r_p4 := r_p4.on (KT.same s_w3)
      replace r_w1 := r_w1.on (KT.same s_w3)
      replace r_p5 := r_p5.on (KT.same s_w3)
      replace r_w2 := r_w2.on (KT.same s_w3)
      replace S := S.sm s_w3
      clear h_w3
      clear s_w3
      generalize (upd Hq49 w3 (.tup [.ref w1, .ref w2])) = Hq50 at hB r_p0 r_p1 r_p2 r_p3 r_p4 r_w1 r_p5 r_w2 r_w3 S ⊢
      exact k _ (.fn name) _ S hB (by simpa [Rw.d, Rw.fv, Fv.d, funM, Vl.d] using r_w3) rfl rfl (by simp only [Rw.wf]; exact hnA) (Nat.zero_le _)
end
end K89

set_option Elab.async false
set_option maxRecDepth 100000
set_option linter.all false
set_option maxHeartbeats 40000000
set_option pp.maxSteps 400
namespace K89
open PySem L2 GD AG LV LamX
section
variable {P : Program} {w : World} {K : PySem.W.Frag} {mg : Str → Option Value} {base : Heap} {A : Adr}
def headsV : List V := [.str "val ", .str "exn ", .str "mod ", .str "fun "]
theorem BoxAt.offs {H : Hp} {b c L : Addr} {x : Str} {xs : List V} (h : BoxAt H b c) (e : H L = some (.lst (.str x :: xs))) : L ≠ b ∧ L ≠ c := by
  obtain ⟨ns, n, m, k, h1, h2, _⟩ := h
  refine ⟨ne_of e h1 (fun z => by cases z), ne_of e h2 fun z => ?_⟩
  cases ns with
  | nil => cases z
  | cons x r => cases z
/-- the lists in the making -/
structure LvA (K : PySem.W.Frag) (b c E F hd tg : Addr) (nl : Addr) (names : List Str) (rs rf : List Rw) (H : Hp) : Prop where
  off : (E ≠ b ∧ E ≠ c) ∧ (F ≠ b ∧ F ≠ c) ∧ (hd ≠ b ∧ hd ≠ c) ∧ (tg ≠ b ∧ tg ≠ c) ∧ (nl ≠ b ∧ nl ≠ c)
  ne : E ≠ F ∧ (hd ≠ E ∧ hd ≠ F) ∧ (tg ≠ E ∧ tg ≠ F) ∧ (nl ≠ E ∧ nl ≠ F)
  ent : ∃ acc, H E = some (.lst acc) ∧ RpAll K H acc (Rw.ds rs)
  fld : ∃ acc, H F = some (.lst acc) ∧ RpAll K H acc (Fv.ds (Rw.fls rf))
  heads : H hd = some (.lst headsV)
  tags : H tg = some (.lst tagV)
  names : H nl = some (.lst (names.map V.str))
theorem LvA.bs {b c E F hd tg nl : Addr} {names : List Str} {rs rf : List Rw} {H H' : Hp} (h : LvA K b c E F hd tg nl names rs rf H) (hB : BoxAt H b c) (s : Bs b c H H') : LvA K b c E F hd tg nl names rs rf H' := by
  obtain ⟨a1, e1, r1⟩ := h.ent
  obtain ⟨a2, e2, r2⟩ := h.fld
  obtain ⟨o1, o2, o3, o4, o5⟩ := h.off
  have kt := hB.kts s
  exact ⟨h.off, h.ne, ⟨a1, s _ _ o1.1 o1.2 e1, r1.on kt⟩, ⟨a2, s _ _ o2.1 o2.2 e2, r2.on kt⟩, s _ _ o3.1 o3.2 h.heads, s _ _ o4.1 o4.2 h.tags, s _ _ o5.1 o5.2 h.names⟩
theorem LvA.sm {b c E F hd tg nl : Addr} {names : List Str} {rs rf : List Rw} {H H' : Hp} (h : LvA K b c E F hd tg nl names rs rf H) (s : Sm H H') : LvA K b c E F hd tg nl names rs rf H' := by
  obtain ⟨a1, e1, r1⟩ := h.ent
  obtain ⟨a2, e2, r2⟩ := h.fld
  have kt := KT.same s
  exact ⟨h.off, h.ne, ⟨a1, s _ _ e1, r1.on kt⟩, ⟨a2, s _ _ e2, r2.on kt⟩, s _ _ h.heads, s _ _ h.tags, s _ _ h.names⟩
theorem fls_app (a b : List Rw) : Rw.fls (a ++ b) = Rw.fls a ++ Rw.fls b := by
  rw [fls_due, fls_due, fls_due, due_app, List.map_append]
theorem fds_app (a b : List (Str × Fv)) : Fv.ds (a ++ b) = Fv.ds a ++ Fv.ds b := by rw [fds_map, List.map_append, ← fds_map, ← fds_map]
theorem fls_one {r : Rw} (h : r.isF = true) : Fv.ds (Rw.fls [r]) = [PyData.tuple [.str r.label, r.fv.d]] := by simp [Rw.fls, h, Fv.ds]
theorem rw_ref {x : V} {r : Rw} {H : Hp} (h : Rp K H x r.d) : ∃ a, x = .ref a := by
  obtain ⟨a, _, _, e, _⟩ := inv_rw r h
  exact ⟨a, e⟩
theorem LvA.setnl {b c E F hd tg nl p : Addr} {names : List Str} {rs rf : List Rw} {H : Hp} {x : Str} {ns : List Str} (h : LvA K b c E F hd tg nl names rs rf H) (hB : BoxAt H b c) (e : H p = some (.lst ((x :: ns).map V.str))) : LvA K b c E F hd tg p (x :: ns) rs rf H := by
  obtain ⟨a1, e1, r1⟩ := h.ent
  obtain ⟨a2, e2, r2⟩ := h.fld
  obtain ⟨o1, o2, o3, o4, o5⟩ := h.off
  obtain ⟨m1, m2, m3, m4⟩ := h.ne
  refine ⟨⟨o1, o2, o3, o4, hB.offs e⟩, ⟨m1, m2, m3, fun z => ?_, fun z => ?_⟩, ⟨a1, e1, r1⟩, ⟨a2, e2, r2⟩, h.heads, h.tags, e⟩
  · rw [z, e1] at e
    cases e
    cases rs with
    | nil => simp only [Rw.ds] at r1; cases r1
    | cons r rs =>
      simp only [Rw.ds] at r1
      obtain ⟨v, ws, ev, hv, _⟩ := r1.cons_inv
      obtain ⟨a, ea⟩ := rw_ref hv
      rw [ea] at ev
      cases ev
  · rw [z, e2] at e
    cases e
    cases hf : Rw.fls rf with
    | nil => rw [hf] at r2; simp only [Fv.ds] at r2; cases r2
    | cons p q =>
      rw [hf] at r2
      obtain ⟨l, f⟩ := p
      simp only [Fv.ds] at r2
      obtain ⟨v, ws, ev, hv, _⟩ := r2.cons_inv
      obtain ⟨a, _, ea, _⟩ := hv.tup_inv
      rw [ea] at ev
      cases ev
theorem LvA.addE {b c E F hd tg nl : Addr} {names : List Str} {rs rf : List Rw} {H : Hp} {acc : List V} {x : V} {r : Rw} (h : LvA K b c E F hd tg nl names rs rf H) (e : H E = some (.lst acc)) (hx : Rp K H x r.d) : LvA K b c E F hd tg nl names (rs ++ [r]) rf (upd H E (.lst (acc ++ [x]))) := by
  obtain ⟨a1, e1, r1⟩ := h.ent
  obtain ⟨a2, e2, r2⟩ := h.fld
  obtain ⟨m1, m2, m3, m4⟩ := h.ne
  rw [e1] at e
  cases e
  have kt : KT H (upd H E (.lst (acc ++ [x]))) := KT.upd_lst (NT.lst e1)
  refine ⟨h.off, h.ne, ⟨_, upd_same, ?_⟩, ⟨a2, by rw [upd_ne m1.symm]; exact e2, r2.on kt⟩, by rw [upd_ne m2.1]; exact h.heads, by rw [upd_ne m3.1]; exact h.tags, by rw [upd_ne m4.1]; exact h.names⟩
  rw [ds_app]
  exact RpAll.app (r1.on kt) (.cons (hx.on kt) .nil)
theorem LvA.addF {b c E F hd tg nl : Addr} {names : List Str} {rs rf : List Rw} {H : Hp} {acc : List V} {x : V} {r : Rw} (h : LvA K b c E F hd tg nl names rs rf H) (e : H F = some (.lst acc)) (hf : r.isF = true) (hx : Rp K H x (.tuple [.str r.label, r.fv.d])) : LvA K b c E F hd tg nl names rs (rf ++ [r]) (upd H F (.lst (acc ++ [x]))) := by
  obtain ⟨a1, e1, r1⟩ := h.ent
  obtain ⟨a2, e2, r2⟩ := h.fld
  obtain ⟨m1, m2, m3, m4⟩ := h.ne
  rw [e2] at e
  cases e
  have kt : KT H (upd H F (.lst (acc ++ [x]))) := KT.upd_lst (NT.lst e2)
  refine ⟨h.off, h.ne, ⟨a1, by rw [upd_ne m1]; exact e1, r1.on kt⟩, ⟨_, upd_same, ?_⟩, by rw [upd_ne m2.2]; exact h.heads, by rw [upd_ne m3.2]; exact h.tags, by rw [upd_ne m4.2]; exact h.names⟩
  rw [fls_app, fds_app, fls_one hf]
  exact RpAll.app (r2.on kt) (.cons (hx.on kt) .nil)
theorem LvA.shp {b c E F hd tg nl : Addr} {names : List Str} {rs rf : List Rw} {H : Hp} (h : LvA K b c E F hd tg nl names rs rf H) : LvA K b c E F hd tg nl names rs (rf ++ [.shp]) H := by
  obtain ⟨a2, e2, r2⟩ := h.fld
  refine ⟨h.off, h.ne, h.ent, ⟨a2, e2, ?_⟩, h.heads, h.tags, h.names⟩
  rw [fls_app]
  simpa [Rw.fls, Rw.isF] using r2
theorem LvA.lenE {b c E F hd tg nl : Addr} {names : List Str} {rs rf : List Rw} {H : Hp} {acc : List V} (h : LvA K b c E F hd tg nl names rs rf H) (e : H E = some (.lst acc)) : acc.length = rs.length := by
  obtain ⟨a1, e1, r1⟩ := h.ent
  rw [e1] at e
  cases e
  rw [r1.length, rds_len]
theorem LvA.lenF {b c E F hd tg nl : Addr} {names : List Str} {rs rf : List Rw} {H : Hp} {acc : List V} (h : LvA K b c E F hd tg nl names rs rf H) (e : H F = some (.lst acc)) : acc.length ≤ rf.length := by
  obtain ⟨a1, e1, r1⟩ := h.fld
  rw [e1] at e
  cases e
  rw [r1.length, fds_len]
  exact fls_le rf
theorem label_at {k : Nat} (hk : k < 4) {r : Rw} (h : r.tag = tagAt k) : ∃ hd : Str, atI headsV (0 + (k : Int)) = some (.str hd) ∧ hd ++ r.name = r.label ∧ hd.length ≤ 10 := by
  have h4 : k = 0 ∨ k = 1 ∨ k = 2 ∨ k = 3 := by omega
  rcases h4 with rfl | rfl | rfl | rfl
  · cases r with
    | val n k => exact ⟨"val ", rfl, rfl, by decide +kernel⟩
    | exn n a i => (simp only [Rw.tag] at h; exact absurd h (by decide +kernel))
    | fn n => (simp only [Rw.tag] at h; exact absurd h (by decide +kernel))
    | mod n rs => (simp only [Rw.tag] at h; exact absurd h (by decide +kernel))
    | shp => (simp only [Rw.tag] at h; exact absurd h (by decide +kernel))
  · cases r with
    | exn n a i => exact ⟨"exn ", rfl, rfl, by decide +kernel⟩
    | val n k => (simp only [Rw.tag] at h; exact absurd h (by decide +kernel))
    | fn n => (simp only [Rw.tag] at h; exact absurd h (by decide +kernel))
    | mod n rs => (simp only [Rw.tag] at h; exact absurd h (by decide +kernel))
    | shp => (simp only [Rw.tag] at h; exact absurd h (by decide +kernel))
  · cases r with
    | mod n rs => exact ⟨"mod ", rfl, rfl, by decide +kernel⟩
    | exn n a i => (simp only [Rw.tag] at h; exact absurd h (by decide +kernel))
    | fn n => (simp only [Rw.tag] at h; exact absurd h (by decide +kernel))
    | val n k => (simp only [Rw.tag] at h; exact absurd h (by decide +kernel))
    | shp => (simp only [Rw.tag] at h; exact absurd h (by decide +kernel))
  · cases r with
    | fn n => exact ⟨"fun ", rfl, rfl, by decide +kernel⟩
    | exn n a i => (simp only [Rw.tag] at h; exact absurd h (by decide +kernel))
    | val n k => (simp only [Rw.tag] at h; exact absurd h (by decide +kernel))
    | mod n rs => (simp only [Rw.tag] at h; exact absurd h (by decide +kernel))
    | shp => (simp only [Rw.tag] at h; exact absurd h (by decide +kernel))
theorem tag_at {k : Nat} (hk : k < 4) : atI tagV (0 + (k : Int)) = some (.str (tagAt k)) := by
  have h4 : k = 0 ∨ k = 1 ∨ k = 2 ∨ k = 3 := by omega
  rcases h4 with rfl | rfl | rfl | rfl <;> rfl
theorem rdeps_app {a b : List Rw} {n : Nat} (h : Rw.deps a ≤ n) (k : Rw.deps b ≤ n) : Rw.deps (a ++ b) ≤ n := rdeps_le fun r hr => by
  rcases List.mem_append.mp hr with m | m
  · exact Nat.le_trans (rdeps_mem m) h
  · exact Nat.le_trans (rdeps_mem m) k
/-- what has been drawn of a part -/
structure Cur (n i j : Nat) (cur : List Rw) : Prop where
  tag : ∀ r ∈ cur, r.tag = tagAt i
  sub : (cur.map Rw.name).Sublist ((tagN i).take j)
  wf : Rw.wfs cur
  deps : Rw.deps cur ≤ n
  len : cur.length ≤ j
theorem Cur.skip {n i j : Nat} {cur : List Rw} (h : Cur n i j cur) : Cur n i (j + 1) cur := ⟨h.tag, h.sub.trans (by rw [List.take_add_one]; exact List.sublist_append_left _ _), h.wf, h.deps, by have := h.len; omega⟩
theorem Cur.add {n i j : Nat} {cur : List Rw} (h : Cur n i j cur) {r : Rw} {nm : Str} (e : (tagN i)[j]? = some nm) (h1 : r.tag = tagAt i) (h2 : r.name = nm) (h3 : r.wf) (h4 : r.dep ≤ n) : Cur n i (j + 1) (cur ++ [r]) := by
  refine ⟨fun q hq => ?_, ?_, wfs_app h.wf (by simp only [Rw.wfs]; exact ⟨h3, trivial⟩), rdeps_app h.deps (by simp only [Rw.deps]; exact Nat.max_le.mpr ⟨h4, Nat.zero_le _⟩), by have := h.len; simp; omega⟩
  · rcases List.mem_append.mp hq with m | m
    · exact h.tag q m
    · rw [List.mem_singleton.mp m]; exact h1
  · rw [List.take_add_one, e, List.map_append]
    refine h.sub.append ?_
    simp [h2]
theorem lev_step (T : Txt K mg A) (n : Nat) (G__law_row : FnOk P w K mg base CX0 (2 * n + 4) A.f__law_row A.d__law_row ["box", "tag", "name", "deep"] (spRow K n)) : FnOk P w K mg base CX0 (2 * n + 5) A.f__law_level A.d__law_level ["box", "deep"] (spLev K n) := by
  have G__law_draw : FnOk P w K mg base CX0 2 A.f__law_draw A.d__law_draw _ _ := ok__law_draw T
  refine T.F__law_level.ok (k := 2 * n + 4) sc__law_level (fun vs H Q E h => ?_) (fun cdv Ar outer s H vs Q E hr h => ?_)
  · obtain ⟨b, c, deep, rfl, _⟩ := h
    rfl
  · obtain ⟨b, c, deep, rfl, hdn, hB, k⟩ := h
    refine ⟨_, (pss_cons (ps_set (i := 2) sc__law_level.nd rfl (Or.inl rfl) (pe_lst pa_nil)) (pss_cons (ps_set (i := 3) sc__law_level.nd rfl (Or.inl rfl) (pe_lst pa_nil)) (pss_cons (ps_set (i := 4) sc__law_level.nd rfl (Or.inl rfl) (pe_lst (pa_cons pe_str (pa_cons pe_str (pa_cons pe_str (pa_cons pe_str pa_nil)))))) (pss_cons (ps_set (i := 5) sc__law_level.nd rfl (Or.inl rfl) (pe_lst (pa_cons pe_str (pa_cons pe_str (pa_cons pe_str (pa_cons pe_str pa_nil)))))) (pss_cons (ps_for PassesOwn.never rfl (pi_range1 rfl T.n_range (pa_cons pe_int pa_nil)) (pg_name (i := 6) sc__law_level.nd rfl (Or.inl rfl)) (pss_cons (ps_set (i := 7) sc__law_level.nd rfl (Or.inl rfl) (pe_ix (ixl (K := K) rfl) (pe_lst (pa_cons (pe_lst (pa_cons pe_str (pa_cons pe_str (pa_cons pe_str (pa_cons pe_str pa_nil))))) (pa_cons (pe_lst (pa_cons pe_str (pa_cons pe_str (pa_cons pe_str (pa_cons pe_str pa_nil))))) (pa_cons (pe_lst (pa_cons pe_str (pa_cons pe_str (pa_cons pe_str (pa_cons pe_str pa_nil))))) (pa_cons (pe_lst (pa_cons pe_str (pa_cons pe_str (pa_cons pe_str (pa_cons pe_str pa_nil))))) pa_nil))))) (pv 6) (fun _ _ => rfl))) (pss_cons (ps_for PassesOwn.never rfl (pi_list (pv 7)) (pg_name (i := 8) sc__law_level.nd rfl (Or.inl rfl)) (pss_one (ps_if (PW.pt (pw_and (pt_cmpR op_eq (pe_call G__law_draw (hr.mono (by first | decide | omega)) rfl T.g__law_draw T.F__law_draw.kp T.b__law_draw .nil pass0 (pa_cons (pv 0) (pa_cons pe_int pa_nil))) pe_int (nomark _)) (pw_and1 (PW.pt (pw_or (pt_cmpR op_ne (pv 6) pe_int (nomark _)) (pw_or1 (pt_cmpR op_gt (pv 1) pe_int (nomark _)))))))) (pss_cons (ps_asg (pe_call G__law_row (hr.mono (by first | decide | omega)) rfl T.g__law_row T.F__law_row.kp T.b__law_row .nil pass0 (pa_cons (pv 0) (pa_cons (pe_ix (ixl (K := K) rfl) (pv 5) (pv 6) (fun _ _ => rfl)) (pa_cons (pv 8) (pa_cons (pv 1) pa_nil))))) (pg_tup rfl (pgs_cons (pg_name (i := 9) sc__law_level.nd rfl (Or.inl rfl)) (pgs_cons (pg_name (i := 10) sc__law_level.nd rfl (Or.inl rfl)) pgs_nil)))) (pss_cons (ps_expr (pe_bm PySem.F.plainAttrs_list PySem.F.slot_list_append PySem.F.type_list_append mt_append (pv 2) (pa_cons (pv 9) pa_nil))) (pss_one (ps_expr (pe_bm PySem.F.plainAttrs_list PySem.F.slot_list_append PySem.F.type_list_append mt_append (pv 3) (pa_cons (pe_tup (pa_cons (pe_op op_add_str (pe_ix (ixl (K := K) rfl) (pv 4) (pv 6) (fun _ _ => rfl)) (pv 8)) (pa_cons (pv 10) pa_nil))) pa_nil)))))) pss_nil))) (pss_one (ps_if (PW.pt (pw_and (pt_cmpR op_eq (pv 6) pe_int (nomark _)) (pw_and1 (pt_cmpR op_eq (pe_call G__law_draw (hr.mono (by first | decide | omega)) rfl T.g__law_draw T.F__law_draw.kp T.b__law_draw .nil pass0 (pa_cons (pv 0) (pa_cons pe_int pa_nil))) pe_int (nomark _))))) (pss_one (ps_expr (pe_bm PySem.F.plainAttrs_list PySem.F.slot_list_append PySem.F.type_list_append mt_append (pv 2) (pa_cons (pe_tup (pa_cons pe_str (pa_cons pe_str (pa_cons pe_int (pa_cons (pe_tup (pa_cons pe_str (pa_cons pe_int (pa_cons (pe_tup pa_nil) pa_nil)))) pa_nil))))) pa_nil)))) pss_nil))))) (pss_one (ps_ret (pe_tup (pa_cons (pe_callTy call_tuple_of (by rfl) T.n_tuple (by decide +kernel) (pa_cons (pv 2) pa_nil)) (pa_cons (pe_callTy call_tuple_of (by rfl) T.n_tuple (by decide +kernel) (pa_cons (pv 3) pa_nil)) pa_nil)))))))))), ?_⟩
    have nb : ∀ {p : Addr} {H' : Hp}, Sm H H' → H' p = none → p ≠ b ∧ p ≠ c := fun {p H'} s hp => by
      obtain ⟨o1, e1⟩ := hB.at_b
      obtain ⟨o2, e2⟩ := hB.at_c
      exact ⟨(ne_of_none (s _ _ e1) hp).symm, (ne_of_none (s _ _ e2) hp).symm⟩
    refine ⟨Nat.zero_le _, fun E hE => ?_⟩
    have sE : Sm H (upd H E (.lst [])) := Sm.new hE
    have oE := nb Sm.refl hE
    have o_E : (upd H E (.lst [])) E = some (.lst []) := upd_same
    generalize (upd H E (.lst [])) = H1 at sE o_E ⊢
    refine ⟨Nat.zero_le _, fun F hF => ?_⟩
    have oF := nb sE hF
    have nEF : E ≠ F := ne_of_none o_E hF
    have hF0 : H F = none := sE.free hF
    have sF : Sm H1 (upd H1 F (.lst [])) := Sm.new hF
    have o_F : (upd H1 F (.lst [])) F = some (.lst []) := upd_same
    replace o_E := sF _ _ o_E
    have sF' : Sm H (upd H1 F (.lst [])) := sE.trans sF
    generalize (upd H1 F (.lst [])) = H2 at sF' o_E o_F ⊢
    refine ⟨(show 4 ≤ sizeLine by decide), fun hd hhd => ?_⟩
    have ohd := nb sF' hhd
    have n1 : hd ≠ E ∧ hd ≠ F := ⟨(ne_of_none o_E hhd).symm, (ne_of_none o_F hhd).symm⟩
    have s3 : Sm H2 (upd H2 hd (.lst [.str "val ", .str "exn ", .str "mod ", .str "fun "])) := Sm.new hhd
    have o_h : (upd H2 hd (.lst [.str "val ", .str "exn ", .str "mod ", .str "fun "])) hd = some (.lst [.str "val ", .str "exn ", .str "mod ", .str "fun "]) := upd_same
    replace o_E := s3 _ _ o_E
    replace o_F := s3 _ _ o_F
    have s3' : Sm H (upd H2 hd (.lst [.str "val ", .str "exn ", .str "mod ", .str "fun "])) := sF'.trans s3
    generalize (upd H2 hd (.lst [.str "val ", .str "exn ", .str "mod ", .str "fun "])) = H3 at s3' o_E o_F o_h ⊢
    refine ⟨(show 4 ≤ sizeLine by decide), fun tg htg => ?_⟩
    have otg := nb s3' htg
    have n2 : tg ≠ E ∧ tg ≠ F := ⟨(ne_of_none o_E htg).symm, (ne_of_none o_F htg).symm⟩
    have s4 : Sm H3 (upd H3 tg (.lst [.str "val", .str "exn", .str "module", .str "functor"])) := Sm.new htg
    have o_t : (upd H3 tg (.lst [.str "val", .str "exn", .str "module", .str "functor"])) tg = some (.lst [.str "val", .str "exn", .str "module", .str "functor"]) := upd_same
    replace o_E := s4 _ _ o_E
    replace o_F := s4 _ _ o_F
    replace o_h := s4 _ _ o_h
    have s4' : Sm H (upd H3 tg (.lst [.str "val", .str "exn", .str "module", .str "functor"])) := s3'.trans s4
    have hL0 : LvA K b c E F hd tg tg LV.tags [] [] (upd H3 tg (.lst [.str "val", .str "exn", .str "module", .str "functor"])) := ⟨⟨oE, oF, ohd, otg, otg⟩, ⟨nEF, n1, n2, n2⟩, ⟨[], o_E, .nil⟩, ⟨[], o_F, .nil⟩, o_h, o_t, o_t⟩
    have hB0 : BoxAt (upd H3 tg (.lst [.str "val", .str "exn", .str "module", .str "functor"])) b c := hB.keep fun a o e _ => s4' a o e
    refine ⟨4, rfl, by decide, by decide, for_range (lo := 0) (n := (4 : Int).toNat) (fun i σ' H' => ∃ (rs : List Rw) (v6 v7 v8 v9 v10 : Option V), σ' = [some (.ref b), some (.int deep), some (.ref E), some (.ref F), some (.ref hd), some (.ref tg), v6, v7, v8, v9, v10] ∧ Bs b c H H' ∧ BoxAt H' b c ∧
      LvA K b c E F hd tg tg LV.tags rs rs H' ∧ Done i rs ∧ Rw.wfs rs ∧ rs.length ≤ 8 * i ∧ Rw.deps rs ≤ n) ?_ ?_ ?_⟩
    · exact ⟨[], none, none, none, none, none, rfl, fun a o _ _ e => s4' a o e, hB0, hL0, .nil, by simp [Rw.wfs], Nat.zero_le _, Nat.zero_le _⟩
    · rintro i σ' Hi hi ⟨rs, v6, v7, v8, v9, v10, rfl, S, hB, hL, hdone, hwf, hlen, hdeps⟩
      have hi4 : i < 4 := hi
      clear hB0 hL0
      refine ⟨(show 4 ≤ sizeLine by decide), fun n0 h_n0 => ?_⟩
      have s_n0 : Sm Hi (upd Hi n0 (.lst [.str "+", .str "a", .str "b2", .str "c"])) := Sm.new h_n0
      have o_n0 : (upd Hi n0 (.lst [.str "+", .str "a", .str "b2", .str "c"])) n0 = some (.lst [.str "+", .str "a", .str "b2", .str "c"]) := upd_same
      replace hB := hB.keep fun a o e _ => s_n0 a o e
      replace hL := hL.sm s_n0
      replace S := S.sm s_n0
      clear h_n0
      clear s_n0
      generalize (upd Hi n0 (.lst [.str "+", .str "a", .str "b2", .str "c"])) = Hq1 at hB hL o_n0 S ⊢
      refine ⟨(show 4 ≤ sizeLine by decide), fun n1 h_n1 => ?_⟩
      have s_n1 : Sm Hq1 (upd Hq1 n1 (.lst [.str "A", .str "B", .str "C", .str "D"])) := Sm.new h_n1
      have o_n1 : (upd Hq1 n1 (.lst [.str "A", .str "B", .str "C", .str "D"])) n1 = some (.lst [.str "A", .str "B", .str "C", .str "D"]) := upd_same
      replace hB := hB.keep fun a o e _ => s_n1 a o e
      replace hL := hL.sm s_n1
      replace o_n0 := s_n1 _ _ o_n0
      replace S := S.sm s_n1
      clear h_n1
      clear s_n1
      generalize (upd Hq1 n1 (.lst [.str "A", .str "B", .str "C", .str "D"])) = Hq2 at hB hL o_n0 o_n1 S ⊢
      refine ⟨(show 4 ≤ sizeLine by decide), fun n2 h_n2 => ?_⟩
      have s_n2 : Sm Hq2 (upd Hq2 n2 (.lst [.str "M", .str "N", .str "O", .str "P"])) := Sm.new h_n2
      have o_n2 : (upd Hq2 n2 (.lst [.str "M", .str "N", .str "O", .str "P"])) n2 = some (.lst [.str "M", .str "N", .str "O", .str "P"]) := upd_same
      replace hB := hB.keep fun a o e _ => s_n2 a o e
      replace hL := hL.sm s_n2
      replace o_n0 := s_n2 _ _ o_n0
      replace o_n1 := s_n2 _ _ o_n1
      replace S := S.sm s_n2
      clear h_n2
      clear s_n2
      generalize (upd Hq2 n2 (.lst [.str "M", .str "N", .str "O", .str "P"])) = Hq3 at hB hL o_n0 o_n1 o_n2 S ⊢
      refine ⟨(show 4 ≤ sizeLine by decide), fun n3 h_n3 => ?_⟩
      have s_n3 : Sm Hq3 (upd Hq3 n3 (.lst [.str "F", .str "G", .str "H", .str "I"])) := Sm.new h_n3
      have o_n3 : (upd Hq3 n3 (.lst [.str "F", .str "G", .str "H", .str "I"])) n3 = some (.lst [.str "F", .str "G", .str "H", .str "I"]) := upd_same
      replace hB := hB.keep fun a o e _ => s_n3 a o e
      replace hL := hL.sm s_n3
      replace o_n0 := s_n3 _ _ o_n0
      replace o_n1 := s_n3 _ _ o_n1
      replace o_n2 := s_n3 _ _ o_n2
      replace S := S.sm s_n3
      clear h_n3
      clear s_n3
      generalize (upd Hq3 n3 (.lst [.str "F", .str "G", .str "H", .str "I"])) = Hq4 at hB hL o_n0 o_n1 o_n2 o_n3 S ⊢
      refine ⟨(show 4 ≤ sizeLine by decide), fun LN h_LN => ?_⟩
      have s_LN : Sm Hq4 (upd Hq4 LN (.lst [.ref n0, .ref n1, .ref n2, .ref n3])) := Sm.new h_LN
      have o_LN : (upd Hq4 LN (.lst [.ref n0, .ref n1, .ref n2, .ref n3])) LN = some (.lst [.ref n0, .ref n1, .ref n2, .ref n3]) := upd_same
      replace hB := hB.keep fun a o e _ => s_LN a o e
      replace hL := hL.sm s_LN
      replace o_n0 := s_LN _ _ o_n0
      replace o_n1 := s_LN _ _ o_n1
      replace o_n2 := s_LN _ _ o_n2
      replace o_n3 := s_LN _ _ o_n3
      replace S := S.sm s_LN
      clear h_LN
      clear s_LN
      generalize (upd Hq4 LN (.lst [.ref n0, .ref n1, .ref n2, .ref n3])) = Hq5 at hB hL o_n0 o_n1 o_n2 o_n3 o_LN S ⊢
      have hnl : ∃ (nl : Addr) (x : Str) (ns : List Str), atI [V.ref n0, .ref n1, .ref n2, .ref n3] (0 + (i : Int)) = some (.ref nl) ∧ Hq5 nl = some (.lst ((x :: ns).map V.str)) ∧ tagN i = x :: ns := by
        have h4 : i = 0 ∨ i = 1 ∨ i = 2 ∨ i = 3 := by omega
        rcases h4 with rfl | rfl | rfl | rfl
        · exact ⟨n0, "+", ["a", "b2", "c"], rfl, o_n0, rfl⟩
        · exact ⟨n1, "A", ["B", "C", "D"], rfl, o_n1, rfl⟩
        · exact ⟨n2, "M", ["N", "O", "P"], rfl, o_n2, rfl⟩
        · exact ⟨n3, "F", ["G", "H", "I"], rfl, o_n3, rfl⟩
      obtain ⟨nl, x0, ns0, hat, o_nl, etn⟩ := hnl
      replace hL := hL.setnl hB o_nl
      rw [← etn] at hL
      refine ⟨_, rfl, LN, _, _, _, rfl, rfl, SqL.of o_LN, hat, ?_⟩
      clear o_n0 o_n1 o_n2 o_n3 o_LN hat o_nl
      refine ⟨_, rfl, nl, rfl, ⟨_, SqL.of hL.names⟩, for_list (xs := (tagN i).map V.str) (fun j σ' H' => ∃ (cur : List Rw) (v8 v9 v10 : Option V), σ' = [some (.ref b), some (.int deep), some (.ref E), some (.ref F), some (.ref hd), some (.ref tg), some (.int (0 + (i : Int))), some (.ref nl), v8, v9, v10] ∧ Bs b c H H' ∧ BoxAt H' b c ∧
        LvA K b c E F hd tg nl (tagN i) (rs ++ cur) (rs ++ cur) H' ∧ Cur n i j cur) ?_ ?_ ?_ ?_⟩
      · exact ⟨[], _, _, _, rfl, S, hB, by rw [List.append_nil]; exact hL, ⟨fun _ h => (by cases h), List.nil_sublist _, by simp [Rw.wfs], Nat.zero_le _, Nat.zero_le _⟩⟩
      · rintro j σ' Hj _ ⟨cur, v8, v9, v10, rfl, _, _, hL2, _⟩
        exact SqL.of hL2.names
      · rintro j y σ' Hj hy ⟨cur, v8, v9, v10, rfl, S2, hB2, hL2, hcur⟩
        rw [List.getElem?_map] at hy
        cases enm : (tagN i)[j]? with
        | none => rw [enm] at hy; cases hy
        | some nm =>
          rw [enm] at hy
          cases hy
          have hj4 : j < 4 := by
            have h1 := (List.getElem?_eq_some_iff.mp enm).1
            have : (tagN i).length = 4 := by
              have h4 : i = 0 ∨ i = 1 ∨ i = 2 ∨ i = 3 := by omega
              rcases h4 with rfl | rfl | rfl | rfl <;> rfl
            omega
          have hnmem : nm ∈ tagN i := List.mem_of_getElem? enm
          have hcl := hcur.len
          clear S hB hL
          refine ⟨_, rfl, b, c, 3, rfl, by decide, by decide, hB2, fun r H3 r0 r1 hx3 hB3 => ?_⟩
          replace hL2 := hL2.bs hB2 (Bs.of hx3)
          replace S2 := S2.bx hx3
          replace hB2 := hB3
          have no : ∀ v9' v10' : Option V, ∃ (cur : List Rw) (v8 v9 v10 : Option V), [some (V.ref b), some (.int deep), some (.ref E), some (.ref F), some (.ref hd), some (.ref tg), some (.int (0 + (i : Int))), some (.ref nl), some (.str nm), v9', v10'] = [some (V.ref b), some (.int deep), some (.ref E), some (.ref F), some (.ref hd), some (.ref tg), some (.int (0 + (i : Int))), some (.ref nl), v8, v9, v10] ∧ Bs b c H H3 ∧ BoxAt H3 b c ∧
              LvA K b c E F hd tg nl (tagN i) (rs ++ cur) (rs ++ cur) H3 ∧ Cur n i (j + 1) cur := fun _ _ => ⟨cur, _, _, _, rfl, S2, hB2, hL2, hcur.skip⟩
          refine ⟨rfl, _, rfl, ?_⟩
          rw [dec_i]
          by_cases hr0 : r = 0
          · rw [decide_eq_true hr0]
            refine iteT (B := _) ⟨_, rfl, rfl, _, rfl, ?_⟩
            rw [dec_i]
            by_cases hi2 : (0 + (i : Int)) = 2
            · rw [decide_eq_true hi2]
              refine iteF (A := _) ⟨_, rfl, _, _, rfl, rfl, _, rfl, ?_⟩
              by_cases hd0 : deep > 0
              · rw [decide_eq_true hd0]
                have hcond : i = 2 → 0 < n := fun _ => by omega
                refine iteT (B := _) ?_
                refine ⟨_, rfl, _, rfl, _, rfl, tg, _, _, _, rfl, rfl, SqL.of hL2.tags, tag_at hi4, _, rfl, _, rfl, b, c, i, nm, deep, rfl, hdn, hi4, hnmem, hcond, hB2, fun res rr H4 s4 hB4 r_res e1 e2 e3 e4 => ?_⟩
                replace hL2 := hL2.bs hB2 s4
                replace S2 := S2.trans s4
                replace hB2 := hB4
                obtain ⟨t, ts, rfl, st, rt⟩ := r_res.tup_inv
                obtain ⟨x, t1, rfl, r_x, rt⟩ := rt.cons_inv
                obtain ⟨y, t2, rfl, r_y, rt⟩ := rt.cons_inv
                have et := rt.nil_inv
                subst et
                have hrF : rr.isF = true := tag_F (by rw [e1]; exact tagAt_mem hi4)
                refine ⟨t, _, rfl, st, rfl, x, [y], rfl, y, [], rfl, rfl, ?_⟩
                obtain ⟨acE, eE, _⟩ := hL2.ent
                have lE := hL2.lenE eE
                have hEn : H E = none := hE
                refine ⟨_, rfl, .inl ⟨rfl, _, SqL.of eE⟩, _, rfl, E, _, _, rfl, rfl, eE, small_lt (by rw [lE, List.length_append]; omega), ?_⟩
                have kE : KT H4 (upd H4 E (.lst (acE ++ [x]))) := KT.upd_lst (NT.lst eE)
                have hL5 := hL2.addE eE r_x
                have S5 : Bs b c H (upd H4 E (.lst (acE ++ [x]))) := S2.upd hE
                have hB5 : BoxAt (upd H4 E (.lst (acE ++ [x]))) b c := hB2.keep fun a o e z => by
                  have : a ≠ E := by rcases z with z | z <;> subst z <;> first | exact oE.1.symm | exact oE.2.symm
                  rw [upd_ne this]
                  exact e
                replace r_y := r_y.on kE
                generalize (upd H4 E (.lst (acE ++ [x]))) = H5 at hL5 S5 hB5 r_y ⊢
                clear hL2 S2 hB2 r_x st rt r_res kE
                obtain ⟨hs, ehs, elb, hsl⟩ := label_at hi4 e1
                rw [e2] at elb
                obtain ⟨acF, eF, _⟩ := hL5.fld
                have lF := hL5.lenF eF
                refine ⟨_, rfl, .inl ⟨rfl, _, SqL.of eF⟩, _, rfl, _, rfl, hd, _, _, _, rfl, rfl, SqL.of hL5.heads, ehs, _, rfl, _, _, rfl, rfl, sum_le (tagN_all hnmem) hsl, _, rfl, (show 2 ≤ sizeLine by decide), fun p hp => ?_⟩
                have sp : Sm H5 (upd H5 p (.tup [.str (hs ++ nm), y])) := Sm.new hp
                have r_p : Rp K (upd H5 p (.tup [.str (hs ++ nm), y])) (.ref p) (.tuple [.str rr.label, rr.fv.d]) := by
                  refine Rp.mk upd_same (.cons ?_ (.cons (r_y.on (KT.same sp)) .nil))
                  rw [elb]
                  exact .str _ (label_ok e3 hrF)
                replace hL5 := hL5.sm sp
                replace eF := sp _ _ eF
                have S6 : Bs b c H (upd H5 p (.tup [.str (hs ++ nm), y])) := S5.sm sp
                have hB6 : BoxAt (upd H5 p (.tup [.str (hs ++ nm), y])) b c := hB5.keep fun a o e _ => sp a o e
                generalize (upd H5 p (.tup [.str (hs ++ nm), y])) = H6 at r_p hL5 eF S6 hB6 ⊢
                refine ⟨F, _, _, rfl, rfl, eF, small_lt (by rw [List.length_append] at lF; omega), ?_⟩
                have hL7 := hL5.addF eF hrF r_p
                refine ⟨cur ++ [rr], _, _, _, rfl, S6.upd hF0, hB6.keep fun a o e z => ?_, by rw [← List.append_assoc]; exact hL7, hcur.add enm e1 e2 e3 e4⟩
                have : a ≠ F := by rcases z with z | z <;> subst z <;> first | exact oF.1.symm | exact oF.2.symm
                rw [upd_ne this]
                exact e
              · rw [decide_eq_false hd0]
                exact iteF (A := _) (no _ _)
            · rw [decide_eq_false hi2]
              have hcond : i = 2 → 0 < n := fun z => absurd (by omega) hi2
              refine iteT (B := _) (iteT (B := _) ?_)
              refine ⟨_, rfl, _, rfl, _, rfl, tg, _, _, _, rfl, rfl, SqL.of hL2.tags, tag_at hi4, _, rfl, _, rfl, b, c, i, nm, deep, rfl, hdn, hi4, hnmem, hcond, hB2, fun res rr H4 s4 hB4 r_res e1 e2 e3 e4 => ?_⟩
              replace hL2 := hL2.bs hB2 s4
              replace S2 := S2.trans s4
              replace hB2 := hB4
              obtain ⟨t, ts, rfl, st, rt⟩ := r_res.tup_inv
              obtain ⟨x, t1, rfl, r_x, rt⟩ := rt.cons_inv
              obtain ⟨y, t2, rfl, r_y, rt⟩ := rt.cons_inv
              have et := rt.nil_inv
              subst et
              have hrF : rr.isF = true := tag_F (by rw [e1]; exact tagAt_mem hi4)
              refine ⟨t, _, rfl, st, rfl, x, [y], rfl, y, [], rfl, rfl, ?_⟩
              obtain ⟨acE, eE, _⟩ := hL2.ent
              have lE := hL2.lenE eE
              have hEn : H E = none := hE
              refine ⟨_, rfl, .inl ⟨rfl, _, SqL.of eE⟩, _, rfl, E, _, _, rfl, rfl, eE, small_lt (by rw [lE, List.length_append]; omega), ?_⟩
              have kE : KT H4 (upd H4 E (.lst (acE ++ [x]))) := KT.upd_lst (NT.lst eE)
              have hL5 := hL2.addE eE r_x
              have S5 : Bs b c H (upd H4 E (.lst (acE ++ [x]))) := S2.upd hE
              have hB5 : BoxAt (upd H4 E (.lst (acE ++ [x]))) b c := hB2.keep fun a o e z => by
                have : a ≠ E := by rcases z with z | z <;> subst z <;> first | exact oE.1.symm | exact oE.2.symm
                rw [upd_ne this]
                exact e
              replace r_y := r_y.on kE
              generalize (upd H4 E (.lst (acE ++ [x]))) = H5 at hL5 S5 hB5 r_y ⊢
              clear hL2 S2 hB2 r_x st rt r_res kE
              obtain ⟨hs, ehs, elb, hsl⟩ := label_at hi4 e1
              rw [e2] at elb
              obtain ⟨acF, eF, _⟩ := hL5.fld
              have lF := hL5.lenF eF
              refine ⟨_, rfl, .inl ⟨rfl, _, SqL.of eF⟩, _, rfl, _, rfl, hd, _, _, _, rfl, rfl, SqL.of hL5.heads, ehs, _, rfl, _, _, rfl, rfl, sum_le (tagN_all hnmem) hsl, _, rfl, (show 2 ≤ sizeLine by decide), fun p hp => ?_⟩
              have sp : Sm H5 (upd H5 p (.tup [.str (hs ++ nm), y])) := Sm.new hp
              have r_p : Rp K (upd H5 p (.tup [.str (hs ++ nm), y])) (.ref p) (.tuple [.str rr.label, rr.fv.d]) := by
                refine Rp.mk upd_same (.cons ?_ (.cons (r_y.on (KT.same sp)) .nil))
                rw [elb]
                exact .str _ (label_ok e3 hrF)
              replace hL5 := hL5.sm sp
              replace eF := sp _ _ eF
              have S6 : Bs b c H (upd H5 p (.tup [.str (hs ++ nm), y])) := S5.sm sp
              have hB6 : BoxAt (upd H5 p (.tup [.str (hs ++ nm), y])) b c := hB5.keep fun a o e _ => sp a o e
              generalize (upd H5 p (.tup [.str (hs ++ nm), y])) = H6 at r_p hL5 eF S6 hB6 ⊢
              refine ⟨F, _, _, rfl, rfl, eF, small_lt (by rw [List.length_append] at lF; omega), ?_⟩
              have hL7 := hL5.addF eF hrF r_p
              refine ⟨cur ++ [rr], _, _, _, rfl, S6.upd hF0, hB6.keep fun a o e z => ?_, by rw [← List.append_assoc]; exact hL7, hcur.add enm e1 e2 e3 e4⟩
              have : a ≠ F := by rcases z with z | z <;> subst z <;> first | exact oF.1.symm | exact oF.2.symm
              rw [upd_ne this]
              exact e
          · rw [decide_eq_false hr0]
            exact iteF (A := _) (no _ _)
      · rintro σ' Hj ⟨cur, v8, v9, v10, rfl, S2, hB2, hL2, hcur⟩
        have hcl := hcur.len
        have hcl4 : cur.length ≤ 4 := by
          have : ((tagN i).map V.str).length = 4 := by
            have h4 : i = 0 ∨ i = 1 ∨ i = 2 ∨ i = 3 := by omega
            rcases h4 with rfl | rfl | rfl | rfl <;> rfl
          omega
        clear S hB hL
        have hsub : (cur.map Rw.name).Sublist (tagN i) := hcur.sub.trans (List.take_sublist _ _)
        have back : ∀ {rs' : List Rw} {H' : Hp}, LvA K b c E F hd tg nl (tagN i) rs' rs' H' → LvA K b c E F hd tg tg LV.tags rs' rs' H' := fun {rs' H'} h => ⟨⟨h.off.1, h.off.2.1, h.off.2.2.1, h.off.2.2.2.1, h.off.2.2.2.1⟩, ⟨h.ne.1, h.ne.2.1, h.ne.2.2.1, h.ne.2.2.1⟩, h.ent, h.fld, h.heads, h.tags, h.tags⟩
        have plain : ∀ {H' : Hp} (v8 v9 v10 : Option V), Bs b c H H' → BoxAt H' b c → LvA K b c E F hd tg nl (tagN i) (rs ++ cur) (rs ++ cur) H' → ∃ (rs : List Rw) (u6 u7 u8 u9 u10 : Option V), [some (V.ref b), some (.int deep), some (.ref E), some (.ref F), some (.ref hd), some (.ref tg), some (.int (0 + (i : Int))), some (.ref nl), v8, v9, v10] = [some (.ref b), some (.int deep), some (.ref E), some (.ref F), some (.ref hd), some (.ref tg), u6, u7, u8, u9, u10] ∧ Bs b c H H' ∧ BoxAt H' b c ∧
            LvA K b c E F hd tg tg LV.tags rs rs H' ∧ Done (i + 1) rs ∧ Rw.wfs rs ∧ rs.length ≤ 8 * (i + 1) ∧ Rw.deps rs ≤ n := fun {H'} v8 v9 v10 q1 q2 q3 => ⟨rs ++ cur, _, _, _, _, _, rfl, q1, q2, back q3, by
              have := Done.more (S := []) hdone hcur.tag hsub (fun _ h => (by cases h))
              rwa [List.append_nil] at this, wfs_app hwf hcur.wf, by rw [List.length_append]; omega, rdeps_app hdeps hcur.deps⟩
        refine ⟨_, rfl, rfl, _, rfl, ?_⟩
        rw [dec_i]
        by_cases hi0 : (0 + (i : Int)) = 0
        · rw [decide_eq_true hi0]
          refine iteT (B := _) ⟨_, rfl, b, c, 2, rfl, by decide, by decide, hB2, fun r H3 r0 r1 hx3 hB3 => ?_⟩
          replace hL2 := hL2.bs hB2 (Bs.of hx3)
          replace S2 := S2.bx hx3
          replace hB2 := hB3
          refine ⟨rfl, _, rfl, ?_⟩
          rw [dec_i]
          by_cases hr0 : r = 0
          · rw [decide_eq_true hr0]
            refine iteT (B := _) ?_
            obtain ⟨acE, eE, _⟩ := hL2.ent
            have lE := hL2.lenE eE
            refine ⟨_, rfl, .inl ⟨rfl, _, SqL.of eE⟩, ?_⟩
            refine ⟨Nat.zero_le _, fun q0 h_q0 => ?_⟩
            have s_q0 : Sm H3 (upd H3 q0 (.tup [])) := Sm.new h_q0
            have r_q0 : Rp K (upd H3 q0 (.tup [])) (.ref q0) (.tuple _) := Rp.mk upd_same (RpAll.on (.nil) (KT.upd_new h_q0))
            replace hB2 := hB2.keep fun a o e _ => s_q0 a o e
            replace hL2 := hL2.sm s_q0
            replace S2 := S2.sm s_q0
            clear h_q0
            clear s_q0
            generalize (upd H3 q0 (.tup [])) = Hq6 at hB2 hL2 r_q0 S2 ⊢
            refine ⟨(show 3 ≤ sizeLine by decide), fun q1 h_q1 => ?_⟩
            have s_q1 : Sm Hq6 (upd Hq6 q1 (.tup [.str "c", .int 0, .ref q0])) := Sm.new h_q1
            have r_q1 : Rp K (upd Hq6 q1 (.tup [.str "c", .int 0, .ref q0])) (.ref q1) (.tuple _) := Rp.mk upd_same (RpAll.on (.cons sok (.cons (.int _) (.cons r_q0 .nil))) (KT.upd_new h_q1))
            replace hB2 := hB2.keep fun a o e _ => s_q1 a o e
            replace hL2 := hL2.sm s_q1
            replace r_q0 := r_q0.on (KT.same s_q1)
            replace S2 := S2.sm s_q1
            clear h_q1
            clear s_q1
            generalize (upd Hq6 q1 (.tup [.str "c", .int 0, .ref q0])) = Hq7 at hB2 hL2 r_q0 r_q1 S2 ⊢
            refine ⟨(show 4 ≤ sizeLine by decide), fun q2 h_q2 => ?_⟩
            have s_q2 : Sm Hq7 (upd Hq7 q2 (.tup [.str "shape", .str "t", .int 0, .ref q1])) := Sm.new h_q2
            have r_q2 : Rp K (upd Hq7 q2 (.tup [.str "shape", .str "t", .int 0, .ref q1])) (.ref q2) (.tuple _) := Rp.mk upd_same (RpAll.on (.cons sok (.cons sok (.cons (.int _) (.cons r_q1 .nil)))) (KT.upd_new h_q2))
            replace hB2 := hB2.keep fun a o e _ => s_q2 a o e
            replace hL2 := hL2.sm s_q2
            replace r_q0 := r_q0.on (KT.same s_q2)
            replace r_q1 := r_q1.on (KT.same s_q2)
            replace S2 := S2.sm s_q2
            clear h_q2
            clear s_q2
            generalize (upd Hq7 q2 (.tup [.str "shape", .str "t", .int 0, .ref q1])) = Hq8 at hB2 hL2 r_q0 r_q1 r_q2 S2 ⊢
            obtain ⟨acE', eE', _⟩ := hL2.ent
            have lE' := hL2.lenE eE'
            refine ⟨E, _, _, rfl, rfl, eE', small_lt (by rw [lE', List.length_append]; omega), ?_⟩
            have hL5 := (hL2.addE (r := .shp) eE' (by simpa [Rw.d, Sh.d, Sh.ds] using r_q2)).shp
            refine ⟨rs ++ cur ++ [.shp], _, _, _, _, _, rfl, S2.upd hE, hB2.keep fun a o e z => ?_, back hL5, Done.more hdone hcur.tag hsub (fun r h => List.mem_singleton.mp h), wfs_app (wfs_app hwf hcur.wf) (by simp [Rw.wfs, Rw.wf]), by rw [List.length_append, List.length_append]; simp; omega, rdeps_app (rdeps_app hdeps hcur.deps) (by simp [Rw.deps, Rw.dep])⟩
            have : a ≠ E := by rcases z with z | z <;> subst z <;> first | exact oE.1.symm | exact oE.2.symm
            rw [upd_ne this]
            exact e
          · rw [decide_eq_false hr0]
            exact iteF (A := _) (plain _ _ _ S2 hB2 hL2)
        · rw [decide_eq_false hi0]
          exact iteF (A := _) (plain _ _ _ S2 hB2 hL2)
    · rintro σ' H' ⟨rs, v6, v7, v8, v9, v10, rfl, S, hB', hL, hdone, hwf, hlen, hdeps⟩
      obtain ⟨acE, eE, rE⟩ := hL.ent
      obtain ⟨acF, eF, rF⟩ := hL.fld
      refine ⟨_, rfl, E, _, rfl, .inl ⟨SqL.of eE, fun p1 h1 => ?_⟩⟩
      have s1 : Sm H' (upd H' p1 (.tup acE)) := Sm.new h1
      have r1 : Rp K (upd H' p1 (.tup acE)) (.ref p1) (.tuple (Rw.ds rs)) := Rp.mk upd_same (rE.on (KT.same s1))
      replace eF := s1 _ _ eF
      replace rF := rF.on (KT.same s1)
      generalize (upd H' p1 (.tup acE)) = Ha at s1 r1 eF rF ⊢
      refine ⟨_, rfl, F, _, rfl, .inl ⟨SqL.of eF, fun p2 h2 => ?_⟩⟩
      have s2 : Sm Ha (upd Ha p2 (.tup acF)) := Sm.new h2
      have r2 : Rp K (upd Ha p2 (.tup acF)) (.ref p2) (.tuple (Fv.ds (Rw.fls rs))) := Rp.mk upd_same (rF.on (KT.same s2))
      replace r1 := r1.on (KT.same s2)
      have s12 := s1.trans s2
      generalize (upd Ha p2 (.tup acF)) = Hb at s12 r1 r2 ⊢
      refine ⟨(show 2 ≤ sizeLine by decide), fun p3 h3 => ?_⟩
      have s3 : Sm Hb (upd Hb p3 (.tup [.ref p1, .ref p2])) := Sm.new h3
      exact k _ rs _ (S.sm (s12.trans s3)) (hB'.keep fun a o e _ => s3 _ _ (s12 _ _ e)) (Rp.mk upd_same (.cons (r1.on (KT.same s3)) (.cons (r2.on (KT.same s3)) .nil))) hwf (done_srt hdone) (by
        have : rs.length ≤ 8 * 4 := hlen
        omega) hdeps
theorem ok_lev (T : Txt K mg A) : ∀ n : Nat, FnOk P w K mg base CX0 (2 * n + 5) A.f__law_level A.d__law_level ["box", "deep"] (spLev K n)
  | 0 => lev_step T 0 (row_step T 0 (T.F__law_level.ok (k := 2) sc__law_level (fun _ _ _ _ h => h.elim) (fun _ _ _ _ _ _ _ _ _ h => h.elim)))
  | n + 1 => lev_step T (n + 1) (row_step T (n + 1) (ok_lev T n))
end
end K89

set_option Elab.async false
set_option maxRecDepth 100000
set_option linter.all false
set_option maxHeartbeats 40000000
set_option pp.maxSteps 400
namespace K89
open PySem L2 GD AG LV LamX
section
variable {P : Program} {w : World} {K : PySem.W.Frag} {mg : Str → Option Value} {base : Heap} {A : Adr}
def spOth (K : PySem.W.Frag) : Sp := fun vs H Q _ => ∃ (b c : Addr) (y : V) (r : Rw), vs = [.ref b, y] ∧ BoxAt H b c ∧ r.wf ∧ r.isF = true ∧ Rp K H y r.fv.d ∧
  ∀ (res : V) (kd : Int) (H' : Hp), 0 ≤ kd → kd < 3 → Bs b c H H' → BoxAt H' b c → Rp K H' res (othF kd r.fv).d → Q res H'
theorem ok_oth (T : Txt K mg A) : FnOk P w K mg base CX0 3 A.f__law_other A.d__law_other ["box", "value"] (spOth K) := by
  have G__law_draw : FnOk P w K mg base CX0 2 A.f__law_draw A.d__law_draw _ _ := ok__law_draw T
  refine T.F__law_other.ok (k := 2) sc__law_other (fun vs H Q E h => ?_) (fun cdv Ar outer s H vs Q E hr h => ?_)
  · obtain ⟨b, c, y, r, rfl, _⟩ := h
    rfl
  · obtain ⟨b, c, y, r, rfl, hB, hwf, hF, r_y, k⟩ := h
    refine ⟨_, (pss_cons (ps_set (i := 2) sc__law_other.nd rfl (Or.inl rfl) (pe_call G__law_draw (hr.mono (by first | decide | omega)) rfl T.g__law_draw T.F__law_draw.kp T.b__law_draw .nil pass0 (pa_cons (pv 0) (pa_cons pe_int pa_nil)))) (pss_cons (ps_if (pt_cmpR op_eq (pv 2) pe_int (nomark _)) (pss_one (ps_ret (pe_tup (pa_cons pe_str (pa_cons pe_int (pa_cons pe_str (pa_cons pe_non pa_nil))))))) pss_nil) (pss_cons (ps_if (pt_cmpR op_eq (pe_ix (ixt (K := K) rfl) (pv 1) pe_int (fun _ _ => rfl)) pe_str (nomark _)) (pss_one (ps_ret (pe_ix (ixl (K := K) rfl) (pe_lst (pa_cons (pe_tup (pa_cons pe_str (pa_cons (pe_ix (ixt (K := K) rfl) (pv 1) pe_int (fun _ _ => rfl)) (pa_cons (pe_op op_add_str (pe_ix (ixt (K := K) rfl) (pv 1) pe_int (fun _ _ => rfl)) pe_str) pa_nil)))) (pa_cons (pe_tup (pa_cons pe_str (pa_cons (pe_ix (ixt (K := K) rfl) (pv 1) pe_int (fun _ _ => rfl)) (pa_cons (pe_ix (ixt (K := K) rfl) (pv 1) pe_int (fun _ _ => rfl)) (pa_cons pe_non pa_nil))))) pa_nil))) (pe_op op_sub (pv 2) pe_int) (fun _ _ => rfl)))) pss_nil) (pss_cons (ps_if (pt_cmpR op_eq (pe_ix (ixt (K := K) rfl) (pv 1) pe_int (fun _ _ => rfl)) pe_str (nomark _)) (pss_one (ps_ret (pe_ix (ixl (K := K) rfl) (pe_lst (pa_cons (pe_tup (pa_cons pe_str (pa_cons (pe_op op_catA (pe_ix (ixt (K := K) rfl) (pv 1) pe_int (fun _ _ => rfl)) (pe_tup (pa_cons (pe_tup (pa_cons pe_str (pa_cons (pe_tup (pa_cons pe_str (pa_cons pe_int pa_nil))) pa_nil))) pa_nil))) pa_nil))) (pa_cons (pe_tup (pa_cons pe_str (pa_cons (pe_tup pa_nil) pa_nil))) pa_nil))) (pe_op op_sub (pv 2) pe_int) (fun _ _ => rfl)))) pss_nil) (pss_cons (ps_if (pt_cmpR op_eq (pe_ix (ixt (K := K) rfl) (pv 1) pe_int (fun _ _ => rfl)) pe_str (nomark _)) (pss_one (ps_ret (pe_ix (ixl (K := K) rfl) (pe_lst (pa_cons (pe_tup (pa_cons pe_str (pa_cons pe_int (pa_cons pe_str pa_nil)))) (pa_cons (pe_tup (pa_cons pe_str (pa_cons (pe_tup pa_nil) pa_nil))) pa_nil))) (pe_op op_sub (pv 2) pe_int) (fun _ _ => rfl)))) pss_nil) (pss_cons (ps_if (pt_cmpR op_eq (pe_ix (ixt (K := K) rfl) (pv 1) pe_int (fun _ _ => rfl)) pe_str (nomark _)) (pss_one (ps_ret (pe_ix (ixl (K := K) rfl) (pe_lst (pa_cons (pe_tup (pa_cons pe_str (pa_cons (pe_tup (pa_cons (pv 1) (pa_cons (pv 1) pa_nil))) pa_nil))) (pa_cons (pe_tup (pa_cons pe_str (pa_cons pe_int (pa_cons pe_str (pa_cons pe_non pa_nil))))) pa_nil))) (pe_op op_sub (pv 2) pe_int) (fun _ _ => rfl)))) pss_nil) (pss_cons (ps_if (pt_cmpR op_eq (pe_ix (ixt (K := K) rfl) (pv 1) pe_int (fun _ _ => rfl)) pe_str (nomark _)) (pss_one (ps_ret (pe_ix (ixl (K := K) rfl) (pe_lst (pa_cons (pe_tup (pa_cons pe_str (pa_cons pe_int pa_nil))) (pa_cons (pe_tup (pa_cons pe_str (pa_cons (pe_tup (pa_cons (pv 1) (pa_cons (pv 1) pa_nil))) pa_nil))) pa_nil))) (pe_op op_sub (pv 2) pe_int) (fun _ _ => rfl)))) pss_nil) (pss_one (ps_ret (pe_ix (ixl (K := K) rfl) (pe_lst (pa_cons (pe_tup (pa_cons pe_str (pa_cons pe_int (pa_cons pe_str (pa_cons (pe_tup (pa_cons pe_str (pa_cons (pe_tup (pa_cons (pe_tup (pa_cons pe_str (pa_cons pe_int pa_nil))) (pa_cons (pv 1) pa_nil))) pa_nil))) pa_nil))))) (pa_cons (pe_tup (pa_cons pe_str (pa_cons pe_int (pa_cons pe_str (pa_cons pe_non pa_nil))))) pa_nil))) (pe_op op_sub (pv 2) pe_int) (fun _ _ => rfl))))))))))), ?_⟩
    have S : Bs b c H H := .refl
    refine ⟨_, rfl, b, c, 3, rfl, by decide, by decide, hB, fun kd H1 kd0 kd1 hx1 hB1 => ?_⟩
    replace r_y := r_y.on (hB.kt hx1)
    replace S := S.bx hx1
    replace hB := hB1
    refine ⟨_, rfl, rfl, _, rfl, ?_⟩
    rw [dec_i]
    by_cases hk0 : kd = 0
    · rw [decide_eq_true hk0]
      refine iteT (B := _) ?_
      refine ⟨(show 4 ≤ sizeLine by decide), fun w1 h_w1 => ?_⟩
      have s_w1 : Sm H1 (upd H1 w1 (.tup [.str "packet", .int 0, .str "Match", .non])) := Sm.new h_w1
      have r_w1 : Rp K (upd H1 w1 (.tup [.str "packet", .int 0, .str "Match", .non])) (.ref w1) (.tuple _) := Rp.mk upd_same (RpAll.on (.cons sok (.cons (.int _) (.cons sok (.cons .non .nil)))) (KT.upd_new h_w1))
      replace hB := hB.keep fun a o e _ => s_w1 a o e
      replace r_y := r_y.on (KT.same s_w1)
      replace S := S.sm s_w1
      clear h_w1
      clear s_w1
      generalize (upd H1 w1 (.tup [.str "packet", .int 0, .str "Match", .non])) = Hq1 at hB r_y r_w1 S ⊢
      exact k _ 0 _ (by decide) (by decide) S hB (show Rp K _ _ (Fv.lf packV).d by simpa [Fv.d, packV, Vl.d] using r_w1)
    rw [decide_eq_false hk0]
    refine iteF (A := _) ?_
    have h12 : kd = 1 ∨ kd = 2 := by omega
    cases r with
    | val n k0 =>
      simp only [Rw.wf] at hwf
      have h4 : k0 = 0 ∨ k0 = 1 ∨ k0 = 2 ∨ k0 = 3 := by omega
      rcases h4 with rfl | rfl | rfl | rfl
      · simp only [Rw.fv, Fv.d, valOf] at r_y
        obtain ⟨a, ws, rfl, hs⟩ := inv_tag (.int 7) r_y
        simp only [Vl.tag] at hs
        refine ⟨_, rfl, a, _, _, _, rfl, rfl, hs, at0, rfl, _, rfl, iteN (by decide +kernel) ?_⟩
        refine ⟨_, rfl, a, _, _, _, rfl, rfl, hs, at0, rfl, _, rfl, iteN (by decide +kernel) ?_⟩
        refine ⟨_, rfl, a, _, _, _, rfl, rfl, hs, at0, rfl, _, rfl, iteN (by decide +kernel) ?_⟩
        refine ⟨_, rfl, a, _, _, _, rfl, rfl, hs, at0, rfl, _, rfl, iteY (by decide +kernel) ?_⟩
        clear hs
        refine ⟨_, rfl, _, rfl, (show 2 ≤ sizeLine by decide), fun w0 h_w0 => ?_⟩
        have s_w0 : Sm H1 (upd H1 w0 (.tup [.ref a, .ref a])) := Sm.new h_w0
        have r_w0 : Rp K (upd H1 w0 (.tup [.ref a, .ref a])) (.ref w0) (.tuple _) := Rp.mk upd_same (RpAll.on (.cons r_y (.cons r_y .nil)) (KT.upd_new h_w0))
        replace hB := hB.keep fun a o e _ => s_w0 a o e
        replace r_y := r_y.on (KT.same s_w0)
        replace S := S.sm s_w0
        clear h_w0
        clear s_w0
        generalize (upd H1 w0 (.tup [.ref a, .ref a])) = Hq2 at hB r_y r_w0 S ⊢
        refine ⟨(show 2 ≤ sizeLine by decide), fun w1 h_w1 => ?_⟩
        have s_w1 : Sm Hq2 (upd Hq2 w1 (.tup [.str "tuple", .ref w0])) := Sm.new h_w1
        have r_w1 : Rp K (upd Hq2 w1 (.tup [.str "tuple", .ref w0])) (.ref w1) (.tuple _) := Rp.mk upd_same (RpAll.on (.cons sok (.cons r_w0 .nil)) (KT.upd_new h_w1))
        replace hB := hB.keep fun a o e _ => s_w1 a o e
        replace r_y := r_y.on (KT.same s_w1)
        replace r_w0 := r_w0.on (KT.same s_w1)
        replace S := S.sm s_w1
        clear h_w1
        clear s_w1
        generalize (upd Hq2 w1 (.tup [.str "tuple", .ref w0])) = Hq3 at hB r_y r_w0 r_w1 S ⊢
        refine ⟨(show 4 ≤ sizeLine by decide), fun w2 h_w2 => ?_⟩
        have s_w2 : Sm Hq3 (upd Hq3 w2 (.tup [.str "con", .int 0, .str "Nil", .non])) := Sm.new h_w2
        have r_w2 : Rp K (upd Hq3 w2 (.tup [.str "con", .int 0, .str "Nil", .non])) (.ref w2) (.tuple _) := Rp.mk upd_same (RpAll.on (.cons sok (.cons (.int _) (.cons sok (.cons .non .nil)))) (KT.upd_new h_w2))
        replace hB := hB.keep fun a o e _ => s_w2 a o e
        replace r_y := r_y.on (KT.same s_w2)
        replace r_w0 := r_w0.on (KT.same s_w2)
        replace r_w1 := r_w1.on (KT.same s_w2)
        replace S := S.sm s_w2
        clear h_w2
        clear s_w2
        generalize (upd Hq3 w2 (.tup [.str "con", .int 0, .str "Nil", .non])) = Hq4 at hB r_y r_w0 r_w1 r_w2 S ⊢
        refine ⟨(show 2 ≤ sizeLine by decide), fun L h_L => ?_⟩
        have s_L : Sm Hq4 (upd Hq4 L (.lst [.ref w1, .ref w2])) := Sm.new h_L
        have o_L : (upd Hq4 L (.lst [.ref w1, .ref w2])) L = some (.lst [.ref w1, .ref w2]) := upd_same
        replace hB := hB.keep fun a o e _ => s_L a o e
        replace r_y := r_y.on (KT.same s_L)
        replace r_w0 := r_w0.on (KT.same s_L)
        replace r_w1 := r_w1.on (KT.same s_L)
        replace r_w2 := r_w2.on (KT.same s_L)
        replace S := S.sm s_L
        clear h_L
        clear s_L
        generalize (upd Hq4 L (.lst [.ref w1, .ref w2])) = Hq5 at hB r_y r_w0 r_w1 r_w2 o_L S ⊢
        rcases h12 with rfl | rfl
        · exact ⟨_, rfl, _, _, rfl, rfl, L, _, _, _, rfl, rfl, SqL.of o_L, rfl, k _ 1 _ (by decide) (by decide) S hB (show Rp K _ _ (Fv.lf (.tup [.int 7, .int 7])).d by simpa [Fv.d, Vl.d, Vl.ds] using r_w1)⟩
        · exact ⟨_, rfl, _, _, rfl, rfl, L, _, _, _, rfl, rfl, SqL.of o_L, rfl, k _ 2 _ (by decide) (by decide) S hB (show Rp K _ _ (Fv.lf (.con0 0 "Nil")).d by simpa [Fv.d, Vl.d] using r_w2)⟩
      · simp only [Rw.fv, Fv.d, valOf] at r_y
        obtain ⟨a, ws, rfl, hs⟩ := inv_tag (.tup []) r_y
        simp only [Vl.tag] at hs
        refine ⟨_, rfl, a, _, _, _, rfl, rfl, hs, at0, rfl, _, rfl, iteN (by decide +kernel) ?_⟩
        refine ⟨_, rfl, a, _, _, _, rfl, rfl, hs, at0, rfl, _, rfl, iteN (by decide +kernel) ?_⟩
        refine ⟨_, rfl, a, _, _, _, rfl, rfl, hs, at0, rfl, _, rfl, iteN (by decide +kernel) ?_⟩
        refine ⟨_, rfl, a, _, _, _, rfl, rfl, hs, at0, rfl, _, rfl, iteN (by decide +kernel) ?_⟩
        refine ⟨_, rfl, a, _, _, _, rfl, rfl, hs, at0, rfl, _, rfl, iteY (by decide +kernel) ?_⟩
        clear hs
        refine ⟨(show 2 ≤ sizeLine by decide), fun w2 h_w2 => ?_⟩
        have s_w2 : Sm H1 (upd H1 w2 (.tup [.str "int", .int 0])) := Sm.new h_w2
        have r_w2 : Rp K (upd H1 w2 (.tup [.str "int", .int 0])) (.ref w2) (.tuple _) := Rp.mk upd_same (RpAll.on (.cons sok (.cons (.int _) .nil)) (KT.upd_new h_w2))
        replace hB := hB.keep fun a o e _ => s_w2 a o e
        replace r_y := r_y.on (KT.same s_w2)
        replace S := S.sm s_w2
        clear h_w2
        clear s_w2
        generalize (upd H1 w2 (.tup [.str "int", .int 0])) = Hq6 at hB r_y r_w2 S ⊢
        refine ⟨_, rfl, _, rfl, (show 2 ≤ sizeLine by decide), fun w0 h_w0 => ?_⟩
        have s_w0 : Sm Hq6 (upd Hq6 w0 (.tup [.ref a, .ref a])) := Sm.new h_w0
        have r_w0 : Rp K (upd Hq6 w0 (.tup [.ref a, .ref a])) (.ref w0) (.tuple _) := Rp.mk upd_same (RpAll.on (.cons r_y (.cons r_y .nil)) (KT.upd_new h_w0))
        replace hB := hB.keep fun a o e _ => s_w0 a o e
        replace r_y := r_y.on (KT.same s_w0)
        replace r_w2 := r_w2.on (KT.same s_w0)
        replace S := S.sm s_w0
        clear h_w0
        clear s_w0
        generalize (upd Hq6 w0 (.tup [.ref a, .ref a])) = Hq7 at hB r_y r_w2 r_w0 S ⊢
        refine ⟨(show 2 ≤ sizeLine by decide), fun w1 h_w1 => ?_⟩
        have s_w1 : Sm Hq7 (upd Hq7 w1 (.tup [.str "tuple", .ref w0])) := Sm.new h_w1
        have r_w1 : Rp K (upd Hq7 w1 (.tup [.str "tuple", .ref w0])) (.ref w1) (.tuple _) := Rp.mk upd_same (RpAll.on (.cons sok (.cons r_w0 .nil)) (KT.upd_new h_w1))
        replace hB := hB.keep fun a o e _ => s_w1 a o e
        replace r_y := r_y.on (KT.same s_w1)
        replace r_w2 := r_w2.on (KT.same s_w1)
        replace r_w0 := r_w0.on (KT.same s_w1)
        replace S := S.sm s_w1
        clear h_w1
        clear s_w1
        generalize (upd Hq7 w1 (.tup [.str "tuple", .ref w0])) = Hq8 at hB r_y r_w2 r_w0 r_w1 S ⊢
        refine ⟨(show 2 ≤ sizeLine by decide), fun L h_L => ?_⟩
        have s_L : Sm Hq8 (upd Hq8 L (.lst [.ref w2, .ref w1])) := Sm.new h_L
        have o_L : (upd Hq8 L (.lst [.ref w2, .ref w1])) L = some (.lst [.ref w2, .ref w1]) := upd_same
        replace hB := hB.keep fun a o e _ => s_L a o e
        replace r_y := r_y.on (KT.same s_L)
        replace r_w2 := r_w2.on (KT.same s_L)
        replace r_w0 := r_w0.on (KT.same s_L)
        replace r_w1 := r_w1.on (KT.same s_L)
        replace S := S.sm s_L
        clear h_L
        clear s_L
        generalize (upd Hq8 L (.lst [.ref w2, .ref w1])) = Hq9 at hB r_y r_w2 r_w0 r_w1 o_L S ⊢
        rcases h12 with rfl | rfl
        · exact ⟨_, rfl, _, _, rfl, rfl, L, _, _, _, rfl, rfl, SqL.of o_L, rfl, k _ 1 _ (by decide) (by decide) S hB (show Rp K _ _ (Fv.lf (.int 0)).d by simpa [Fv.d, Vl.d] using r_w2)⟩
        · exact ⟨_, rfl, _, _, rfl, rfl, L, _, _, _, rfl, rfl, SqL.of o_L, rfl, k _ 2 _ (by decide) (by decide) S hB (show Rp K _ _ (Fv.lf (.tup [.tup [], .tup []])).d by simpa [Fv.d, Vl.d, Vl.ds] using r_w1)⟩
      · simp only [Rw.fv, Fv.d, valOf] at r_y
        obtain ⟨a, ws, rfl, hs⟩ := inv_tag funV r_y
        simp only [funV, Vl.tag] at hs
        refine ⟨_, rfl, a, _, _, _, rfl, rfl, hs, at0, rfl, _, rfl, iteN (by decide +kernel) ?_⟩
        refine ⟨_, rfl, a, _, _, _, rfl, rfl, hs, at0, rfl, _, rfl, iteN (by decide +kernel) ?_⟩
        refine ⟨_, rfl, a, _, _, _, rfl, rfl, hs, at0, rfl, _, rfl, iteY (by decide +kernel) ?_⟩
        clear hs
        refine ⟨(show 3 ≤ sizeLine by decide), fun w1 h_w1 => ?_⟩
        have s_w1 : Sm H1 (upd H1 w1 (.tup [.str "exn", .int 4, .str "A"])) := Sm.new h_w1
        have r_w1 : Rp K (upd H1 w1 (.tup [.str "exn", .int 4, .str "A"])) (.ref w1) (.tuple _) := Rp.mk upd_same (RpAll.on (.cons sok (.cons (.int _) (.cons sok .nil))) (KT.upd_new h_w1))
        replace hB := hB.keep fun a o e _ => s_w1 a o e
        replace r_y := r_y.on (KT.same s_w1)
        replace S := S.sm s_w1
        clear h_w1
        clear s_w1
        generalize (upd H1 w1 (.tup [.str "exn", .int 4, .str "A"])) = Hq10 at hB r_y r_w1 S ⊢
        refine ⟨Nat.zero_le _, fun w0 h_w0 => ?_⟩
        have s_w0 : Sm Hq10 (upd Hq10 w0 (.tup [])) := Sm.new h_w0
        have r_w0 : Rp K (upd Hq10 w0 (.tup [])) (.ref w0) (.tuple _) := Rp.mk upd_same (RpAll.on (.nil) (KT.upd_new h_w0))
        replace hB := hB.keep fun a o e _ => s_w0 a o e
        replace r_y := r_y.on (KT.same s_w0)
        replace r_w1 := r_w1.on (KT.same s_w0)
        replace S := S.sm s_w0
        clear h_w0
        clear s_w0
        generalize (upd Hq10 w0 (.tup [])) = Hq11 at hB r_y r_w1 r_w0 S ⊢
        refine ⟨(show 2 ≤ sizeLine by decide), fun w2 h_w2 => ?_⟩
        have s_w2 : Sm Hq11 (upd Hq11 w2 (.tup [.str "record", .ref w0])) := Sm.new h_w2
        have r_w2 : Rp K (upd Hq11 w2 (.tup [.str "record", .ref w0])) (.ref w2) (.tuple _) := Rp.mk upd_same (RpAll.on (.cons sok (.cons r_w0 .nil)) (KT.upd_new h_w2))
        replace hB := hB.keep fun a o e _ => s_w2 a o e
        replace r_y := r_y.on (KT.same s_w2)
        replace r_w1 := r_w1.on (KT.same s_w2)
        replace r_w0 := r_w0.on (KT.same s_w2)
        replace S := S.sm s_w2
        clear h_w2
        clear s_w2
        generalize (upd Hq11 w2 (.tup [.str "record", .ref w0])) = Hq12 at hB r_y r_w1 r_w0 r_w2 S ⊢
        refine ⟨(show 2 ≤ sizeLine by decide), fun L h_L => ?_⟩
        have s_L : Sm Hq12 (upd Hq12 L (.lst [.ref w1, .ref w2])) := Sm.new h_L
        have o_L : (upd Hq12 L (.lst [.ref w1, .ref w2])) L = some (.lst [.ref w1, .ref w2]) := upd_same
        replace hB := hB.keep fun a o e _ => s_L a o e
        replace r_y := r_y.on (KT.same s_L)
        replace r_w1 := r_w1.on (KT.same s_L)
        replace r_w0 := r_w0.on (KT.same s_L)
        replace r_w2 := r_w2.on (KT.same s_L)
        replace S := S.sm s_L
        clear h_L
        clear s_L
        generalize (upd Hq12 L (.lst [.ref w1, .ref w2])) = Hq13 at hB r_y r_w1 r_w0 r_w2 o_L S ⊢
        rcases h12 with rfl | rfl
        · exact ⟨_, rfl, _, _, rfl, rfl, L, _, _, _, rfl, rfl, SqL.of o_L, rfl, k _ 1 _ (by decide) (by decide) S hB (show Rp K _ _ (Fv.exn 4 "A").d by simpa [Fv.d] using r_w1)⟩
        · exact ⟨_, rfl, _, _, rfl, rfl, L, _, _, _, rfl, rfl, SqL.of o_L, rfl, k _ 2 _ (by decide) (by decide) S hB (show Rp K _ _ (Fv.rcd []).d by simpa [Fv.d, Fv.ds] using r_w2)⟩
      · simp only [Rw.fv, Fv.d, valOf] at r_y
        obtain ⟨a, ws, rfl, hs⟩ := inv_tag (.con0 0 "Nil") r_y
        simp only [Vl.tag] at hs
        refine ⟨_, rfl, a, _, _, _, rfl, rfl, hs, at0, rfl, _, rfl, iteN (by decide +kernel) ?_⟩
        refine ⟨_, rfl, a, _, _, _, rfl, rfl, hs, at0, rfl, _, rfl, iteN (by decide +kernel) ?_⟩
        refine ⟨_, rfl, a, _, _, _, rfl, rfl, hs, at0, rfl, _, rfl, iteN (by decide +kernel) ?_⟩
        refine ⟨_, rfl, a, _, _, _, rfl, rfl, hs, at0, rfl, _, rfl, iteN (by decide +kernel) ?_⟩
        refine ⟨_, rfl, a, _, _, _, rfl, rfl, hs, at0, rfl, _, rfl, iteN (by decide +kernel) ?_⟩
        clear hs
        refine ⟨(show 2 ≤ sizeLine by decide), fun z0 h_z0 => ?_⟩
        have s_z0 : Sm H1 (upd H1 z0 (.tup [.str "int", .int 0])) := Sm.new h_z0
        have r_z0 : Rp K (upd H1 z0 (.tup [.str "int", .int 0])) (.ref z0) (.tuple _) := Rp.mk upd_same (RpAll.on (.cons sok (.cons (.int _) .nil)) (KT.upd_new h_z0))
        replace hB := hB.keep fun a o e _ => s_z0 a o e
        replace r_y := r_y.on (KT.same s_z0)
        replace S := S.sm s_z0
        clear h_z0
        clear s_z0
        generalize (upd H1 z0 (.tup [.str "int", .int 0])) = Hq14 at hB r_y r_z0 S ⊢
        refine ⟨_, rfl, (show 2 ≤ sizeLine by decide), fun z1 h_z1 => ?_⟩
        have s_z1 : Sm Hq14 (upd Hq14 z1 (.tup [.ref z0, .ref a])) := Sm.new h_z1
        have r_z1 : Rp K (upd Hq14 z1 (.tup [.ref z0, .ref a])) (.ref z1) (.tuple _) := Rp.mk upd_same (RpAll.on (.cons r_z0 (.cons r_y .nil)) (KT.upd_new h_z1))
        replace hB := hB.keep fun a o e _ => s_z1 a o e
        replace r_y := r_y.on (KT.same s_z1)
        replace r_z0 := r_z0.on (KT.same s_z1)
        replace S := S.sm s_z1
        clear h_z1
        clear s_z1
        generalize (upd Hq14 z1 (.tup [.ref z0, .ref a])) = Hq15 at hB r_y r_z0 r_z1 S ⊢
        refine ⟨(show 2 ≤ sizeLine by decide), fun z2 h_z2 => ?_⟩
        have s_z2 : Sm Hq15 (upd Hq15 z2 (.tup [.str "tuple", .ref z1])) := Sm.new h_z2
        have r_z2 : Rp K (upd Hq15 z2 (.tup [.str "tuple", .ref z1])) (.ref z2) (.tuple _) := Rp.mk upd_same (RpAll.on (.cons sok (.cons r_z1 .nil)) (KT.upd_new h_z2))
        replace hB := hB.keep fun a o e _ => s_z2 a o e
        replace r_y := r_y.on (KT.same s_z2)
        replace r_z0 := r_z0.on (KT.same s_z2)
        replace r_z1 := r_z1.on (KT.same s_z2)
        replace S := S.sm s_z2
        clear h_z2
        clear s_z2
        generalize (upd Hq15 z2 (.tup [.str "tuple", .ref z1])) = Hq16 at hB r_y r_z0 r_z1 r_z2 S ⊢
        refine ⟨(show 4 ≤ sizeLine by decide), fun w1 h_w1 => ?_⟩
        have s_w1 : Sm Hq16 (upd Hq16 w1 (.tup [.str "con", .int 1, .str "Cons", .ref z2])) := Sm.new h_w1
        have r_w1 : Rp K (upd Hq16 w1 (.tup [.str "con", .int 1, .str "Cons", .ref z2])) (.ref w1) (.tuple _) := Rp.mk upd_same (RpAll.on (.cons sok (.cons (.int _) (.cons sok (.cons r_z2 .nil)))) (KT.upd_new h_w1))
        replace hB := hB.keep fun a o e _ => s_w1 a o e
        replace r_y := r_y.on (KT.same s_w1)
        replace r_z0 := r_z0.on (KT.same s_w1)
        replace r_z1 := r_z1.on (KT.same s_w1)
        replace r_z2 := r_z2.on (KT.same s_w1)
        replace S := S.sm s_w1
        clear h_w1
        clear s_w1
        generalize (upd Hq16 w1 (.tup [.str "con", .int 1, .str "Cons", .ref z2])) = Hq17 at hB r_y r_z0 r_z1 r_z2 r_w1 S ⊢
        refine ⟨(show 4 ≤ sizeLine by decide), fun w2 h_w2 => ?_⟩
        have s_w2 : Sm Hq17 (upd Hq17 w2 (.tup [.str "con", .int 0, .str "None", .non])) := Sm.new h_w2
        have r_w2 : Rp K (upd Hq17 w2 (.tup [.str "con", .int 0, .str "None", .non])) (.ref w2) (.tuple _) := Rp.mk upd_same (RpAll.on (.cons sok (.cons (.int _) (.cons sok (.cons .non .nil)))) (KT.upd_new h_w2))
        replace hB := hB.keep fun a o e _ => s_w2 a o e
        replace r_y := r_y.on (KT.same s_w2)
        replace r_z0 := r_z0.on (KT.same s_w2)
        replace r_z1 := r_z1.on (KT.same s_w2)
        replace r_z2 := r_z2.on (KT.same s_w2)
        replace r_w1 := r_w1.on (KT.same s_w2)
        replace S := S.sm s_w2
        clear h_w2
        clear s_w2
        generalize (upd Hq17 w2 (.tup [.str "con", .int 0, .str "None", .non])) = Hq18 at hB r_y r_z0 r_z1 r_z2 r_w1 r_w2 S ⊢
        refine ⟨(show 2 ≤ sizeLine by decide), fun L h_L => ?_⟩
        have s_L : Sm Hq18 (upd Hq18 L (.lst [.ref w1, .ref w2])) := Sm.new h_L
        have o_L : (upd Hq18 L (.lst [.ref w1, .ref w2])) L = some (.lst [.ref w1, .ref w2]) := upd_same
        replace hB := hB.keep fun a o e _ => s_L a o e
        replace r_y := r_y.on (KT.same s_L)
        replace r_z0 := r_z0.on (KT.same s_L)
        replace r_z1 := r_z1.on (KT.same s_L)
        replace r_z2 := r_z2.on (KT.same s_L)
        replace r_w1 := r_w1.on (KT.same s_L)
        replace r_w2 := r_w2.on (KT.same s_L)
        replace S := S.sm s_L
        clear h_L
        clear s_L
        generalize (upd Hq18 L (.lst [.ref w1, .ref w2])) = Hq19 at hB r_y r_z0 r_z1 r_z2 r_w1 r_w2 o_L S ⊢
        rcases h12 with rfl | rfl
        · exact ⟨_, rfl, _, _, rfl, rfl, L, _, _, _, rfl, rfl, SqL.of o_L, rfl, k _ 1 _ (by decide) (by decide) S hB (show Rp K _ _ (Fv.lf (.con1 1 "Cons" (.tup [.int 0, .con0 0 "Nil"]))).d by simpa [Fv.d, Vl.d, Vl.ds] using r_w1)⟩
        · exact ⟨_, rfl, _, _, rfl, rfl, L, _, _, _, rfl, rfl, SqL.of o_L, rfl, k _ 2 _ (by decide) (by decide) S hB (show Rp K _ _ (Fv.lf (.con0 0 "None")).d by simpa [Fv.d, Vl.d] using r_w2)⟩
    | exn n a0 i =>
      simp only [Rw.wf] at hwf
      have hnO := allN_ok hwf
      obtain ⟨a, rfl, hs⟩ := inv_exn r_y
      refine ⟨_, rfl, a, _, _, _, rfl, rfl, hs, at0, rfl, _, rfl, iteY (by decide +kernel) ?_⟩
      refine ⟨_, rfl, a, _, _, _, rfl, rfl, hs, at1, _, rfl, a, _, _, _, rfl, rfl, hs, at2, _, _, rfl, rfl, (by have := sum_le hwf (x := "x") (by decide +kernel); rw [Nat.add_comm]; exact this), (show 3 ≤ sizeLine by decide), fun w1 h_w1 => ?_⟩
      have s_w1 : Sm H1 (upd H1 w1 (.tup [.str "exn", .int i, .str (n ++ ("x" : Str))])) := Sm.new h_w1
      have r_w1 : Rp K (upd H1 w1 (.tup [.str "exn", .int i, .str (n ++ ("x" : Str))])) (.ref w1) (.tuple _) := Rp.mk upd_same (RpAll.on (.cons sok (.cons (.int _) (.cons (.str _ (strOk_app hnO (by decide +kernel))) .nil))) (KT.upd_new h_w1))
      replace hB := hB.keep fun a o e _ => s_w1 a o e
      replace r_y := r_y.on (KT.same s_w1)
      replace hs := (KT.same s_w1).sqt hs
      replace S := S.sm s_w1
      clear h_w1
      clear s_w1
      generalize (upd H1 w1 (.tup [.str "exn", .int i, .str (n ++ ("x" : Str))])) = Hq20 at hB r_y hs r_w1 S ⊢
      refine ⟨_, rfl, a, _, _, _, rfl, rfl, hs, at1, _, rfl, a, _, _, _, rfl, rfl, hs, at2, (show 4 ≤ sizeLine by decide), fun w2 h_w2 => ?_⟩
      have s_w2 : Sm Hq20 (upd Hq20 w2 (.tup [.str "packet", .int i, .str n, .non])) := Sm.new h_w2
      have r_w2 : Rp K (upd Hq20 w2 (.tup [.str "packet", .int i, .str n, .non])) (.ref w2) (.tuple _) := Rp.mk upd_same (RpAll.on (.cons sok (.cons (.int _) (.cons (.str _ hnO) (.cons .non .nil)))) (KT.upd_new h_w2))
      replace hB := hB.keep fun a o e _ => s_w2 a o e
      replace r_y := r_y.on (KT.same s_w2)
      replace hs := (KT.same s_w2).sqt hs
      replace r_w1 := r_w1.on (KT.same s_w2)
      replace S := S.sm s_w2
      clear h_w2
      clear s_w2
      generalize (upd Hq20 w2 (.tup [.str "packet", .int i, .str n, .non])) = Hq21 at hB r_y hs r_w1 r_w2 S ⊢
      refine ⟨(show 2 ≤ sizeLine by decide), fun L h_L => ?_⟩
      have s_L : Sm Hq21 (upd Hq21 L (.lst [.ref w1, .ref w2])) := Sm.new h_L
      have o_L : (upd Hq21 L (.lst [.ref w1, .ref w2])) L = some (.lst [.ref w1, .ref w2]) := upd_same
      replace hB := hB.keep fun a o e _ => s_L a o e
      replace r_y := r_y.on (KT.same s_L)
      replace hs := (KT.same s_L).sqt hs
      replace r_w1 := r_w1.on (KT.same s_L)
      replace r_w2 := r_w2.on (KT.same s_L)
      replace S := S.sm s_L
      clear h_L
      clear s_L
      generalize (upd Hq21 L (.lst [.ref w1, .ref w2])) = Hq22 at hB r_y hs r_w1 r_w2 o_L S ⊢
      rcases h12 with rfl | rfl
      · exact ⟨_, rfl, _, _, rfl, rfl, L, _, _, _, rfl, rfl, SqL.of o_L, rfl, k _ 1 _ (by decide) (by decide) S hB (show Rp K _ _ (Fv.exn i (n ++ ("x" : Str))).d by simpa [Fv.d] using r_w1)⟩
      · exact ⟨_, rfl, _, _, rfl, rfl, L, _, _, _, rfl, rfl, SqL.of o_L, rfl, k _ 2 _ (by decide) (by decide) S hB (show Rp K _ _ (Fv.lf (.oth "packet" [.int i, .str n, .none])).d by simpa [Fv.d, Vl.d] using r_w2)⟩
    | fn n =>
      simp only [Rw.fv, Fv.d] at r_y
      obtain ⟨a, ws, rfl, hs⟩ := inv_tag funM r_y
      simp only [funM, Vl.tag] at hs
      refine ⟨_, rfl, a, _, _, _, rfl, rfl, hs, at0, rfl, _, rfl, iteN (by decide +kernel) ?_⟩
      refine ⟨_, rfl, a, _, _, _, rfl, rfl, hs, at0, rfl, _, rfl, iteN (by decide +kernel) ?_⟩
      refine ⟨_, rfl, a, _, _, _, rfl, rfl, hs, at0, rfl, _, rfl, iteY (by decide +kernel) ?_⟩
      clear hs
      refine ⟨(show 3 ≤ sizeLine by decide), fun w1 h_w1 => ?_⟩
      have s_w1 : Sm H1 (upd H1 w1 (.tup [.str "exn", .int 4, .str "A"])) := Sm.new h_w1
      have r_w1 : Rp K (upd H1 w1 (.tup [.str "exn", .int 4, .str "A"])) (.ref w1) (.tuple _) := Rp.mk upd_same (RpAll.on (.cons sok (.cons (.int _) (.cons sok .nil))) (KT.upd_new h_w1))
      replace hB := hB.keep fun a o e _ => s_w1 a o e
      replace r_y := r_y.on (KT.same s_w1)
      replace S := S.sm s_w1
      clear h_w1
      clear s_w1
      generalize (upd H1 w1 (.tup [.str "exn", .int 4, .str "A"])) = Hq23 at hB r_y r_w1 S ⊢
      refine ⟨Nat.zero_le _, fun w0 h_w0 => ?_⟩
      have s_w0 : Sm Hq23 (upd Hq23 w0 (.tup [])) := Sm.new h_w0
      have r_w0 : Rp K (upd Hq23 w0 (.tup [])) (.ref w0) (.tuple _) := Rp.mk upd_same (RpAll.on (.nil) (KT.upd_new h_w0))
      replace hB := hB.keep fun a o e _ => s_w0 a o e
      replace r_y := r_y.on (KT.same s_w0)
      replace r_w1 := r_w1.on (KT.same s_w0)
      replace S := S.sm s_w0
      clear h_w0
      clear s_w0
      generalize (upd Hq23 w0 (.tup [])) = Hq24 at hB r_y r_w1 r_w0 S ⊢
      refine ⟨(show 2 ≤ sizeLine by decide), fun w2 h_w2 => ?_⟩
      have s_w2 : Sm Hq24 (upd Hq24 w2 (.tup [.str "record", .ref w0])) := Sm.new h_w2
      have r_w2 : Rp K (upd Hq24 w2 (.tup [.str "record", .ref w0])) (.ref w2) (.tuple _) := Rp.mk upd_same (RpAll.on (.cons sok (.cons r_w0 .nil)) (KT.upd_new h_w2))
      replace hB := hB.keep fun a o e _ => s_w2 a o e
      replace r_y := r_y.on (KT.same s_w2)
      replace r_w1 := r_w1.on (KT.same s_w2)
      replace r_w0 := r_w0.on (KT.same s_w2)
      replace S := S.sm s_w2
      clear h_w2
      clear s_w2
      generalize (upd Hq24 w2 (.tup [.str "record", .ref w0])) = Hq25 at hB r_y r_w1 r_w0 r_w2 S ⊢
      refine ⟨(show 2 ≤ sizeLine by decide), fun L h_L => ?_⟩
      have s_L : Sm Hq25 (upd Hq25 L (.lst [.ref w1, .ref w2])) := Sm.new h_L
      have o_L : (upd Hq25 L (.lst [.ref w1, .ref w2])) L = some (.lst [.ref w1, .ref w2]) := upd_same
      replace hB := hB.keep fun a o e _ => s_L a o e
      replace r_y := r_y.on (KT.same s_L)
      replace r_w1 := r_w1.on (KT.same s_L)
      replace r_w0 := r_w0.on (KT.same s_L)
      replace r_w2 := r_w2.on (KT.same s_L)
      replace S := S.sm s_L
      clear h_L
      clear s_L
      generalize (upd Hq25 L (.lst [.ref w1, .ref w2])) = Hq26 at hB r_y r_w1 r_w0 r_w2 o_L S ⊢
      rcases h12 with rfl | rfl
      · exact ⟨_, rfl, _, _, rfl, rfl, L, _, _, _, rfl, rfl, SqL.of o_L, rfl, k _ 1 _ (by decide) (by decide) S hB (show Rp K _ _ (Fv.exn 4 "A").d by simpa [Fv.d] using r_w1)⟩
      · exact ⟨_, rfl, _, _, rfl, rfl, L, _, _, _, rfl, rfl, SqL.of o_L, rfl, k _ 2 _ (by decide) (by decide) S hB (show Rp K _ _ (Fv.rcd []).d by simpa [Fv.d, Fv.ds] using r_w2)⟩
    | mod n rs =>
      simp only [Rw.wf] at hwf
      have hfl : (Rw.fls rs).length ≤ 100 := Nat.le_trans (fls_le rs) hwf.2.2.2
      obtain ⟨a, g, gs, rfl, hs, hg, hgs⟩ := inv_rcd r_y
      refine ⟨_, rfl, a, _, _, _, rfl, rfl, hs, at0, rfl, _, rfl, iteN (by decide +kernel) ?_⟩
      refine ⟨_, rfl, a, _, _, _, rfl, rfl, hs, at0, rfl, _, rfl, iteY (by decide +kernel) ?_⟩
      have r_g : Rp K H1 (.ref g) (.tuple (Fv.ds (Rw.fls rs))) := .tup hg hgs
      clear hg hgs
      refine ⟨_, rfl, a, _, _, _, rfl, rfl, hs, at1, (show 2 ≤ sizeLine by decide), fun z0 h_z0 => ?_⟩
      have s_z0 : Sm H1 (upd H1 z0 (.tup [.str "int", .int 0])) := Sm.new h_z0
      have r_z0 : Rp K (upd H1 z0 (.tup [.str "int", .int 0])) (.ref z0) (.tuple _) := Rp.mk upd_same (RpAll.on (.cons sok (.cons (.int _) .nil)) (KT.upd_new h_z0))
      replace hB := hB.keep fun a o e _ => s_z0 a o e
      replace r_y := r_y.on (KT.same s_z0)
      replace r_g := r_g.on (KT.same s_z0)
      replace S := S.sm s_z0
      clear h_z0
      clear s_z0
      generalize (upd H1 z0 (.tup [.str "int", .int 0])) = Hq27 at hB r_y r_g r_z0 S ⊢
      refine ⟨(show 2 ≤ sizeLine by decide), fun z1 h_z1 => ?_⟩
      have s_z1 : Sm Hq27 (upd Hq27 z1 (.tup [.str "fun Z", .ref z0])) := Sm.new h_z1
      have r_z1 : Rp K (upd Hq27 z1 (.tup [.str "fun Z", .ref z0])) (.ref z1) (.tuple _) := Rp.mk upd_same (RpAll.on (.cons sok (.cons r_z0 .nil)) (KT.upd_new h_z1))
      replace hB := hB.keep fun a o e _ => s_z1 a o e
      replace r_y := r_y.on (KT.same s_z1)
      replace r_g := r_g.on (KT.same s_z1)
      replace r_z0 := r_z0.on (KT.same s_z1)
      replace S := S.sm s_z1
      clear h_z1
      clear s_z1
      generalize (upd Hq27 z1 (.tup [.str "fun Z", .ref z0])) = Hq28 at hB r_y r_g r_z0 r_z1 S ⊢
      refine ⟨(show 1 ≤ sizeLine by decide), fun z2 h_z2 => ?_⟩
      have s_z2 : Sm Hq28 (upd Hq28 z2 (.tup [.ref z1])) := Sm.new h_z2
      have r_z2 : Rp K (upd Hq28 z2 (.tup [.ref z1])) (.ref z2) (.tuple _) := Rp.mk upd_same (RpAll.on (.cons r_z1 .nil) (KT.upd_new h_z2))
      replace hB := hB.keep fun a o e _ => s_z2 a o e
      replace r_y := r_y.on (KT.same s_z2)
      replace r_g := r_g.on (KT.same s_z2)
      replace r_z0 := r_z0.on (KT.same s_z2)
      replace r_z1 := r_z1.on (KT.same s_z2)
      replace S := S.sm s_z2
      clear h_z2
      clear s_z2
      generalize (upd Hq28 z2 (.tup [.ref z1])) = Hq29 at hB r_y r_g r_z0 r_z1 r_z2 S ⊢
      refine catA_rp r_g r_z2 (by rw [fds_len]; exact small_le (by simp; omega)) fun rr Hc sc r_rr => ?_
      replace hB := hB.keep fun a o e _ => sc a o e
      replace r_y := r_y.on (KT.same sc)
      replace r_g := r_g.on (KT.same sc)
      replace r_z0 := r_z0.on (KT.same sc)
      replace r_z1 := r_z1.on (KT.same sc)
      replace r_z2 := r_z2.on (KT.same sc)
      replace S := S.sm sc
      refine ⟨(show 2 ≤ sizeLine by decide), fun w1 h_w1 => ?_⟩
      have s_w1 : Sm Hc (upd Hc w1 (.tup [.str "record", rr])) := Sm.new h_w1
      have r_w1 : Rp K (upd Hc w1 (.tup [.str "record", rr])) (.ref w1) (.tuple _) := Rp.mk upd_same (RpAll.on (.cons sok (.cons r_rr .nil)) (KT.upd_new h_w1))
      replace hB := hB.keep fun a o e _ => s_w1 a o e
      replace r_y := r_y.on (KT.same s_w1)
      replace r_g := r_g.on (KT.same s_w1)
      replace r_z0 := r_z0.on (KT.same s_w1)
      replace r_z1 := r_z1.on (KT.same s_w1)
      replace r_z2 := r_z2.on (KT.same s_w1)
      replace r_rr := r_rr.on (KT.same s_w1)
      replace S := S.sm s_w1
      clear h_w1
      clear s_w1
      generalize (upd Hc w1 (.tup [.str "record", rr])) = Hq30 at hB r_y r_g r_z0 r_z1 r_z2 r_rr r_w1 S ⊢
      refine ⟨Nat.zero_le _, fun w0 h_w0 => ?_⟩
      have s_w0 : Sm Hq30 (upd Hq30 w0 (.tup [])) := Sm.new h_w0
      have r_w0 : Rp K (upd Hq30 w0 (.tup [])) (.ref w0) (.tuple _) := Rp.mk upd_same (RpAll.on (.nil) (KT.upd_new h_w0))
      replace hB := hB.keep fun a o e _ => s_w0 a o e
      replace r_y := r_y.on (KT.same s_w0)
      replace r_g := r_g.on (KT.same s_w0)
      replace r_z0 := r_z0.on (KT.same s_w0)
      replace r_z1 := r_z1.on (KT.same s_w0)
      replace r_z2 := r_z2.on (KT.same s_w0)
      replace r_rr := r_rr.on (KT.same s_w0)
      replace r_w1 := r_w1.on (KT.same s_w0)
      replace S := S.sm s_w0
      clear h_w0
      clear s_w0
      generalize (upd Hq30 w0 (.tup [])) = Hq31 at hB r_y r_g r_z0 r_z1 r_z2 r_rr r_w1 r_w0 S ⊢
      refine ⟨(show 2 ≤ sizeLine by decide), fun w2 h_w2 => ?_⟩
      have s_w2 : Sm Hq31 (upd Hq31 w2 (.tup [.str "tuple", .ref w0])) := Sm.new h_w2
      have r_w2 : Rp K (upd Hq31 w2 (.tup [.str "tuple", .ref w0])) (.ref w2) (.tuple _) := Rp.mk upd_same (RpAll.on (.cons sok (.cons r_w0 .nil)) (KT.upd_new h_w2))
      replace hB := hB.keep fun a o e _ => s_w2 a o e
      replace r_y := r_y.on (KT.same s_w2)
      replace r_g := r_g.on (KT.same s_w2)
      replace r_z0 := r_z0.on (KT.same s_w2)
      replace r_z1 := r_z1.on (KT.same s_w2)
      replace r_z2 := r_z2.on (KT.same s_w2)
      replace r_rr := r_rr.on (KT.same s_w2)
      replace r_w1 := r_w1.on (KT.same s_w2)
      replace r_w0 := r_w0.on (KT.same s_w2)
      replace S := S.sm s_w2
      clear h_w2
      clear s_w2
      generalize (upd Hq31 w2 (.tup [.str "tuple", .ref w0])) = Hq32 at hB r_y r_g r_z0 r_z1 r_z2 r_rr r_w1 r_w0 r_w2 S ⊢
      refine ⟨(show 2 ≤ sizeLine by decide), fun L h_L => ?_⟩
      have s_L : Sm Hq32 (upd Hq32 L (.lst [.ref w1, .ref w2])) := Sm.new h_L
      have o_L : (upd Hq32 L (.lst [.ref w1, .ref w2])) L = some (.lst [.ref w1, .ref w2]) := upd_same
      replace hB := hB.keep fun a o e _ => s_L a o e
      replace r_y := r_y.on (KT.same s_L)
      replace r_g := r_g.on (KT.same s_L)
      replace r_z0 := r_z0.on (KT.same s_L)
      replace r_z1 := r_z1.on (KT.same s_L)
      replace r_z2 := r_z2.on (KT.same s_L)
      replace r_rr := r_rr.on (KT.same s_L)
      replace r_w1 := r_w1.on (KT.same s_L)
      replace r_w0 := r_w0.on (KT.same s_L)
      replace r_w2 := r_w2.on (KT.same s_L)
      replace S := S.sm s_L
      clear h_L
      clear s_L
      generalize (upd Hq32 L (.lst [.ref w1, .ref w2])) = Hq33 at hB r_y r_g r_z0 r_z1 r_z2 r_rr r_w1 r_w0 r_w2 o_L S ⊢
      rcases h12 with rfl | rfl
      · exact ⟨_, rfl, _, _, rfl, rfl, L, _, _, _, rfl, rfl, SqL.of o_L, rfl, k _ 1 _ (by decide) (by decide) S hB (show Rp K _ _ (Fv.rcd (Rw.fls rs ++ [(("fun Z" : Str), Fv.lf (.int 0))])).d by simpa [Fv.d, fds_app, Fv.ds, Vl.d] using r_w1)⟩
      · exact ⟨_, rfl, _, _, rfl, rfl, L, _, _, _, rfl, rfl, SqL.of o_L, rfl, k _ 2 _ (by decide) (by decide) S hB (show Rp K _ _ (Fv.lf (.tup [])).d by simpa [Fv.d, Vl.d, Vl.ds] using r_w2)⟩
    | shp => cases hF
end
end K89

set_option Elab.async false
set_option maxRecDepth 100000
set_option linter.all false
set_option maxHeartbeats 40000000
set_option pp.maxSteps 400
namespace K89
open PySem L2 GD AG LV LamX
section
variable {P : Program} {w : World} {K : PySem.W.Frag} {mg : Str → Option Value} {base : Heap} {A : Adr}
def spChg (K : PySem.W.Frag) (n : Nat) : Sp := fun vs H Q _ => ∃ (b c : Addr) (y : V) (rs : List Rw), vs = [.ref b, y] ∧ BoxAt H b c ∧ Rw.wfs rs ∧ Srt rs ∧ rs.length ≤ 100 ∧ Rw.deps rs ≤ n ∧ 0 < (Rw.fls rs).length ∧ Rp K H y (.tuple (Fv.ds (Rw.fls rs))) ∧
  ∀ (res : V) (fs : List (Str × Fv)) (H' : Hp), Bs b c H H' → BoxAt H' b c → Rp K H' res (.tuple (Fv.ds fs)) → Fv.oks fs → fs.length ≤ 1000 → (∀ d, 3 ≤ d → Rw.goA d rs fs = false) → Q res H'
def spChgR (K : PySem.W.Frag) : Nat → Sp
  | 0 => fun _ _ _ _ => False
  | n + 1 => spChg K n
theorem fds_take (l : List (Str × Fv)) (n : Nat) : (Fv.ds l).take n = Fv.ds (l.take n) := by rw [fds_map, fds_map, List.map_take]
theorem fds_drop (l : List (Str × Fv)) (n : Nat) : (Fv.ds l).drop n = Fv.ds (l.drop n) := by rw [fds_map, fds_map, List.map_drop]
theorem foks_take {l : List (Str × Fv)} (n : Nat) (h : Fv.oks l) : Fv.oks (l.take n) := foks_all fun p hp => foks_mem h (List.mem_of_mem_take hp)
theorem foks_drop {l : List (Str × Fv)} (n : Nat) (h : Fv.oks l) : Fv.oks (l.drop n) := foks_all fun p hp => foks_mem h (List.mem_of_mem_drop hp)
theorem foks_one {p : Str × Fv} (h : p.2.ok) : Fv.oks [p] := foks_all fun q hq => by rw [List.mem_singleton.mp hq]; exact h
theorem lab_len {r : Rw} (h : r.wf) (hf : r.isF = true) : r.label.length ≤ 20 := by
  have hn := allN_len (name_mem h hf)
  have key : ∀ x y : Str, (x ++ y).length = x.length + y.length := fun x y => by
    show (x.cps ++ y.cps).size = _
    rw [Array.size_append]
    rfl
  cases r with
  | val n k => show ((("val " : Str)) ++ n).length ≤ 20; rw [key]; have h4 : ("val " : Str).length = 4 := (by decide +kernel); have h2 : n.length ≤ 2 := hn; omega
  | exn n b i => show ((("exn " : Str)) ++ n).length ≤ 20; rw [key]; have h4 : ("exn " : Str).length = 4 := (by decide +kernel); have h2 : n.length ≤ 2 := hn; omega
  | fn n => show ((("fun " : Str)) ++ n).length ≤ 20; rw [key]; have h4 : ("fun " : Str).length = 4 := (by decide +kernel); have h2 : n.length ≤ 2 := hn; omega
  | mod n rs => show ((("mod " : Str)) ++ n).length ≤ 20; rw [key]; have h4 : ("mod " : Str).length = 4 := (by decide +kernel); have h2 : n.length ≤ 2 := hn; omega
  | shp => cases hf
theorem chg_step (T : Txt K mg A) (n : Nat) (G__law_changed : FnOk P w K mg base CX0 (n + 4) A.f__law_changed A.d__law_changed ["box", "fields"] (spChgR K n)) : FnOk P w K mg base CX0 (n + 5) A.f__law_changed A.d__law_changed ["box", "fields"] (spChg K n) := by
  have G__law_draw : FnOk P w K mg base CX0 2 A.f__law_draw A.d__law_draw _ _ := ok__law_draw T
  have G__law_other : FnOk P w K mg base CX0 3 A.f__law_other A.d__law_other _ _ := ok_oth T
  refine T.F__law_changed.ok (k := n + 4) sc__law_changed (fun vs H Q E h => ?_) (fun cdv Ar outer s H vs Q E hr h => ?_)
  · obtain ⟨b, c, y, rs, rfl, _⟩ := h
    rfl
  · obtain ⟨b, c, y, rs, rfl, hB, hwf, hsrt, hlen, hdeps, hpos, r_y, k⟩ := h
    refine ⟨_, (pss_cons (ps_set (i := 2) sc__law_changed.nd rfl (Or.inl rfl) (pe_call G__law_draw (hr.mono (by first | decide | omega)) rfl T.g__law_draw T.F__law_draw.kp T.b__law_draw .nil pass0 (pa_cons (pv 0) (pa_cons (pe_callB call_len_seq (by rfl) T.n_len PySem.boot_len (pa_cons (pv 1) pa_nil)) pa_nil)))) (pss_cons (ps_asg (pe_ix (ixt (K := K) rfl) (pv 1) (pv 2) (fun _ _ => rfl)) (pg_tup rfl (pgs_cons (pg_name (i := 3) sc__law_changed.nd rfl (Or.inl rfl)) (pgs_cons (pg_name (i := 4) sc__law_changed.nd rfl (Or.inl rfl)) pgs_nil)))) (pss_cons (ps_set (i := 5) sc__law_changed.nd rfl (Or.inl rfl) (pe_call G__law_draw (hr.mono (by first | decide | omega)) rfl T.g__law_draw T.F__law_draw.kp T.b__law_draw .nil pass0 (pa_cons (pv 0) (pa_cons pe_int pa_nil)))) (pss_cons (ps_if (pt_cmpR op_eq (pv 5) pe_int (nomark _)) (pss_one (ps_ret (pe_op op_catA (pe_slice sl_tupA (pv 1) po_none (po_some (pv 2))) (pe_slice sl_tupA (pv 1) (po_some (pe_op op_add (pv 2) pe_int)) po_none)))) pss_nil) (pss_cons (ps_if (PW.pt (pw_and (pt_cmpR op_eq (pv 5) pe_int (nomark _)) (pw_and1 (pt_cmpR op_gt (pv 2) pe_int (nomark _))))) (pss_one (ps_ret (pe_op op_catA (pe_op op_catA (pe_slice sl_tupA (pv 1) po_none (po_some (pe_op op_sub (pv 2) pe_int))) (pe_tup (pa_cons (pe_ix (ixt (K := K) rfl) (pv 1) (pv 2) (fun _ _ => rfl)) (pa_cons (pe_ix (ixt (K := K) rfl) (pv 1) (pe_op op_sub (pv 2) pe_int) (fun _ _ => rfl)) pa_nil)))) (pe_slice sl_tupA (pv 1) (po_some (pe_op op_add (pv 2) pe_int)) po_none)))) pss_nil) (pss_cons (ps_if (pt_cmpR op_eq (pv 5) pe_int (nomark _)) (pss_one (ps_ret (pe_op op_catA (pe_op op_catA (pe_slice sl_tupA (pv 1) po_none (po_some (pv 2))) (pe_tup (pa_cons (pe_tup (pa_cons (pe_op op_add_str (pv 3) pe_str) (pa_cons (pv 4) pa_nil))) pa_nil))) (pe_slice sl_tupA (pv 1) (po_some (pe_op op_add (pv 2) pe_int)) po_none)))) pss_nil) (pss_cons (ps_if (PW.pt (pw_and (pt_cmpR op_eq (pv 5) pe_int (nomark _)) (pw_and (pt_cmpR op_eq (pe_ix (ixt (K := K) rfl) (pv 4) pe_int (fun _ _ => rfl)) pe_str (nomark _)) (pw_and1 (pt_cmpR op_gt (pe_callB call_len_seq (by rfl) T.n_len PySem.boot_len (pa_cons (pe_ix (ixt (K := K) rfl) (pv 4) pe_int (fun _ _ => rfl)) pa_nil)) pe_int (nomark _)))))) (pss_one (ps_ret (pe_op op_catA (pe_op op_catA (pe_slice sl_tupA (pv 1) po_none (po_some (pv 2))) (pe_tup (pa_cons (pe_tup (pa_cons (pv 3) (pa_cons (pe_tup (pa_cons pe_str (pa_cons (pe_call G__law_changed (hr.mono (by first | decide | omega)) rfl T.g__law_changed T.F__law_changed.kp T.b__law_changed .nil pass0 (pa_cons (pv 0) (pa_cons (pe_ix (ixt (K := K) rfl) (pv 4) pe_int (fun _ _ => rfl)) pa_nil))) pa_nil))) pa_nil))) pa_nil))) (pe_slice sl_tupA (pv 1) (po_some (pe_op op_add (pv 2) pe_int)) po_none)))) pss_nil) (pss_cons (ps_if (pt_cmpR op_eq (pv 5) pe_int (nomark _)) (pss_one (ps_ret (pe_op op_catA (pv 1) (pe_tup (pa_cons (pe_tup (pa_cons pe_str (pa_cons (pe_tup (pa_cons pe_str (pa_cons pe_int pa_nil))) pa_nil))) pa_nil))))) pss_nil) (pss_one (ps_ret (pe_op op_catA (pe_op op_catA (pe_slice sl_tupA (pv 1) po_none (po_some (pv 2))) (pe_tup (pa_cons (pe_tup (pa_cons (pv 3) (pa_cons (pe_call G__law_other (hr.mono (by first | decide | omega)) rfl T.g__law_other T.F__law_other.kp T.b__law_other .nil pass0 (pa_cons (pv 0) (pa_cons (pv 4) pa_nil))) pa_nil))) pa_nil))) (pe_slice sl_tupA (pv 1) (po_some (pe_op op_add (pv 2) pe_int)) po_none)))))))))))), ?_⟩
    have S : Bs b c H H := .refl
    have hfl : (Rw.fls rs).length ≤ 100 := Nat.le_trans (fls_le rs) hlen
    have hfo := fls_ok rs hwf
    obtain ⟨ya, ys, rfl, hys, hyr⟩ := r_y.tup_inv
    have hyl : ys.length = (Rw.fls rs).length := by rw [hyr.length, fds_len]
    refine ⟨_, rfl, _, rfl, ya, _, rfl, .inr hys, b, c, ((ys.length : Nat) : Int), rfl, by omega, by omega, hB, fun at_ H1 at0_ at1_ hx1 hB1 => ?_⟩
    clear hyr
    replace r_y := r_y.on (hB.kt hx1)
    replace hys := (hB.kt hx1).sqt hys
    replace S := S.bx hx1
    replace hB := hB1
    obtain ⟨i, rfl⟩ : ∃ i : Nat, at_ = (i : Int) := ⟨at_.toNat, by omega⟩
    have hi : i < (Rw.fls rs).length := by omega
    have ep : (Rw.fls rs)[i]? = some (Rw.fls rs)[i] := List.getElem?_eq_getElem hi
    generalize (Rw.fls rs)[i] = p at ep
    obtain ⟨r, er, rfl, mr, hrF⟩ := fls_at ep
    have hrw := wfs_mem hwf mr
    have hld := label_ok hrw hrF
    have hll := lab_len hrw hrF
    obtain ⟨fa, fxs, fv, efa, hfx, efv, r_fv⟩ := r_y.at_ (show (Fv.ds (Rw.fls rs))[i]? = some (fld (r.label, r.fv)) by rw [fds_map, List.getElem?_map, ep]; rfl)
    cases efa
    obtain ⟨pa, v, rfl, hpa, r_v, _⟩ := inv_fld r_fv
    refine ⟨_, rfl, _, rfl, ya, _, _, _, rfl, rfl, hfx, atI_nat efv, pa, _, rfl, hpa, rfl, .str r.label, [v], rfl, v, [], rfl, rfl, ?_⟩
    clear hfx hpa
    refine ⟨_, rfl, b, c, 5, rfl, by decide, by decide, hB, fun kd H2 kd0 kd1 hx2 hB2 => ?_⟩
    replace r_y := r_y.on (hB.kt hx2)
    replace hys := (hB.kt hx2).sqt hys
    replace r_fv := r_fv.on (hB.kt hx2)
    replace r_v := r_v.on (hB.kt hx2)
    replace S := S.bx hx2
    replace hB := hB2
    -- the parts on both sides
    -- one field in its place: NEW its name and value
    refine ⟨_, rfl, rfl, _, rfl, ?_⟩
    rw [dec_i]
    by_cases hk0 : kd = 0
    · rw [decide_eq_true hk0]
      refine iteT (B := _) ?_
      refine ⟨_, rfl, _, rfl, _, rfl, slA_take (K := K) i rfl (by rw [fds_len]; omega) r_y fun q1 Hf1 sf1 r_q1 => ?_⟩
      rw [fds_take] at r_q1
      replace hB := hB.keep fun a o e _ => sf1 a o e
      replace r_y := r_y.on (KT.same sf1)
      replace hys := (KT.same sf1).sqt hys
      replace r_fv := r_fv.on (KT.same sf1)
      replace r_v := r_v.on (KT.same sf1)
      replace S := S.sm sf1
      refine ⟨_, rfl, _, rfl, _, _, rfl, rfl, _, rfl, ?_⟩
      dsimp only [tNoPart]
      refine (slA_drop (K := K) (i + 1) (by push_cast; rfl) (by rw [fds_len]; omega) r_y fun q3 Hf3 sf3 r_q3 => ?_)
      rw [fds_drop] at r_q3
      replace hB := hB.keep fun a o e _ => sf3 a o e
      replace r_y := r_y.on (KT.same sf3)
      replace hys := (KT.same sf3).sqt hys
      replace r_fv := r_fv.on (KT.same sf3)
      replace r_v := r_v.on (KT.same sf3)
      replace r_q1 := r_q1.on (KT.same sf3)
      replace S := S.sm sf3
      refine catA_rp (K := K) r_q1 r_q3 (by rw [fds_len, fds_len, List.length_take, List.length_drop]; exact small_le (by omega)) fun q4 Hf4 sf4 r_q4 => ?_
      replace hB := hB.keep fun a o e _ => sf4 a o e
      replace r_y := r_y.on (KT.same sf4)
      replace hys := (KT.same sf4).sqt hys
      replace r_fv := r_fv.on (KT.same sf4)
      replace r_v := r_v.on (KT.same sf4)
      replace r_q1 := r_q1.on (KT.same sf4)
      replace r_q3 := r_q3.on (KT.same sf4)
      replace S := S.sm sf4
      exact k _ ((Rw.fls rs).take i ++ (Rw.fls rs).drop (i + 1)) _ S hB (by rw [fds_app]; exact r_q4) (foks_app (foks_take _ hfo) (foks_drop _ hfo)) (by rw [List.length_append, List.length_take, List.length_drop]; omega) fun d _ => bad_drop hi
    rw [decide_eq_false hk0]
    refine iteF (A := _) ?_
    -- another value
    have hrec : ∀ fs, r.fv = .rcd fs → fs.length ≤ 900 := fun fs e => by
      cases r with
      | mod n rs =>
        simp only [Rw.fv] at e
        cases e
        simp only [Rw.wf] at hrw
        exact Nat.le_trans (fls_le rs) (by omega)
      | val n k0 => simp only [Rw.fv] at e; cases e
      | exn n a i => simp only [Rw.fv] at e; cases e
      | fn n => simp only [Rw.fv] at e; cases e
      | shp => simp only [Rw.fv] at e; cases e
    refine ⟨_, rfl, rfl, _, rfl, ?_⟩
    rw [dec_i]
    by_cases hk1 : kd = 1
    · rw [decide_eq_true hk1]
      refine iteT (B := _) ⟨_, rfl, _, _, rfl, rfl, _, rfl, ?_⟩
      by_cases hi0 : (i : Int) > 0
      · rw [decide_eq_true hi0]
        refine iteT (B := _) ?_
        obtain ⟨i, rfl⟩ : ∃ j, i = j + 1 := ⟨i - 1, by omega⟩
        have hi' : i < (Rw.fls rs).length := by omega
        have ep' : (Rw.fls rs)[i]? = some (Rw.fls rs)[i] := List.getElem?_eq_getElem hi'
        have hm' := List.getElem_mem hi'
        generalize (Rw.fls rs)[i] = p' at ep' hm'
        refine ⟨_, rfl, _, rfl, _, _, rfl, rfl, _, rfl, slA_take (K := K) i (by push_cast; omega) (by rw [fds_len]; omega) r_y fun q1 Hf1 sf1 r_q1 => ?_⟩
        rw [fds_take] at r_q1
        replace hB := hB.keep fun a o e _ => sf1 a o e
        replace r_y := r_y.on (KT.same sf1)
        replace hys := (KT.same sf1).sqt hys
        replace r_fv := r_fv.on (KT.same sf1)
        replace r_v := r_v.on (KT.same sf1)
        replace S := S.sm sf1
        obtain ⟨ga, gxs, gv, ega, hgx, egv, r_gv⟩ := r_y.at_ (show (Fv.ds (Rw.fls rs))[i + 1]? = some (fld (r.label, r.fv)) by rw [fds_map, List.getElem?_map, ep]; rfl)
        cases ega
        obtain ⟨ga, gxs', gv', ega, hgx', egv', r_gv'⟩ := r_y.at_ (show (Fv.ds (Rw.fls rs))[i]? = some (fld p') by rw [fds_map, List.getElem?_map, ep']; rfl)
        cases ega
        refine ⟨_, rfl, _, rfl, ya, _, _, _, rfl, rfl, hgx, atI_nat egv, _, rfl, _, rfl, _, _, rfl, rfl, ya, _, _, _, rfl, rfl, hgx', (show atI gxs' (((i + 1 : Nat) : Int) - 1) = some gv' by rw [show (((i + 1 : Nat) : Int) - 1) = (i : Int) by omega]; exact atI_nat egv'), (show 2 ≤ sizeLine by decide), fun m1 h_m1 => ?_⟩
        have s_m1 : Sm Hf1 (upd Hf1 m1 (.tup [gv, gv'])) := Sm.new h_m1
        have r_m1 : Rp K (upd Hf1 m1 (.tup [gv, gv'])) (.ref m1) (.tuple _) := Rp.mk upd_same (RpAll.on (.cons r_gv (.cons r_gv' .nil)) (KT.upd_new h_m1))
        replace hB := hB.keep fun a o e _ => s_m1 a o e
        replace r_y := r_y.on (KT.same s_m1)
        replace hys := (KT.same s_m1).sqt hys
        replace r_fv := r_fv.on (KT.same s_m1)
        replace r_v := r_v.on (KT.same s_m1)
        replace r_q1 := r_q1.on (KT.same s_m1)
        replace r_gv := r_gv.on (KT.same s_m1)
        replace r_gv' := r_gv'.on (KT.same s_m1)
        replace S := S.sm s_m1
        clear h_m1
        clear s_m1
        generalize (upd Hf1 m1 (.tup [gv, gv'])) = Hq1 at hB r_y hys r_fv r_v r_q1 r_gv r_gv' r_m1 S ⊢
        refine catA_rp (K := K) r_q1 r_m1 (by rw [fds_len, List.length_take]; exact small_le (by simp; omega)) fun q2 Hf2 sf2 r_q2 => ?_
        replace hB := hB.keep fun a o e _ => sf2 a o e
        replace r_y := r_y.on (KT.same sf2)
        replace hys := (KT.same sf2).sqt hys
        replace r_fv := r_fv.on (KT.same sf2)
        replace r_v := r_v.on (KT.same sf2)
        replace r_q1 := r_q1.on (KT.same sf2)
        replace r_gv := r_gv.on (KT.same sf2)
        replace r_gv' := r_gv'.on (KT.same sf2)
        replace r_m1 := r_m1.on (KT.same sf2)
        replace S := S.sm sf2
        refine ⟨_, rfl, _, rfl, _, _, rfl, rfl, _, rfl, ?_⟩
        dsimp only [tNoPart]
        refine (slA_drop (K := K) (i + 1 + 1) (by push_cast; rfl) (by rw [fds_len]; omega) r_y fun q3 Hf3 sf3 r_q3 => ?_)
        rw [fds_drop] at r_q3
        replace hB := hB.keep fun a o e _ => sf3 a o e
        replace r_y := r_y.on (KT.same sf3)
        replace hys := (KT.same sf3).sqt hys
        replace r_fv := r_fv.on (KT.same sf3)
        replace r_v := r_v.on (KT.same sf3)
        replace r_q1 := r_q1.on (KT.same sf3)
        replace r_gv := r_gv.on (KT.same sf3)
        replace r_gv' := r_gv'.on (KT.same sf3)
        replace r_m1 := r_m1.on (KT.same sf3)
        replace r_q2 := r_q2.on (KT.same sf3)
        replace S := S.sm sf3
        refine catA_rp (K := K) r_q2 r_q3 (by rw [List.length_append, fds_len, fds_len, List.length_take, List.length_drop]; exact small_le (by simp; omega)) fun q4 Hf4 sf4 r_q4 => ?_
        replace hB := hB.keep fun a o e _ => sf4 a o e
        replace r_y := r_y.on (KT.same sf4)
        replace hys := (KT.same sf4).sqt hys
        replace r_fv := r_fv.on (KT.same sf4)
        replace r_v := r_v.on (KT.same sf4)
        replace r_q1 := r_q1.on (KT.same sf4)
        replace r_gv := r_gv.on (KT.same sf4)
        replace r_gv' := r_gv'.on (KT.same sf4)
        replace r_m1 := r_m1.on (KT.same sf4)
        replace r_q2 := r_q2.on (KT.same sf4)
        replace r_q3 := r_q3.on (KT.same sf4)
        replace S := S.sm sf4
        exact k _ ((Rw.fls rs).take i ++ [(r.label, r.fv), p'] ++ (Rw.fls rs).drop (i + 1 + 1)) _ S hB (by rw [fds_app, fds_app]; simpa [fds_map] using r_q4) (foks_app (foks_app (foks_take _ hfo) (foks_all fun q hq => foks_mem hfo (by
          rcases List.mem_cons.mp hq with e | hq
          · rw [e]; exact List.mem_of_getElem? ep
          · rw [List.mem_singleton.mp hq]; exact hm'))) (foks_drop _ hfo)) (by rw [List.length_append, List.length_append, List.length_take, List.length_drop]; simp; omega) fun d hd => bad_swap hsrt.2.2 ep' ep _
      · rw [decide_eq_false hi0]
        refine iteF (A := _) ?_
        subst hk1
        refine ⟨_, rfl, rfl, _, rfl, iteN (by decide) ?_⟩
        refine ⟨_, rfl, rfl, _, rfl, iteN (by decide) ?_⟩
        refine ⟨_, rfl, rfl, _, rfl, iteN (by decide) ?_⟩
        refine ⟨_, rfl, _, rfl, _, rfl, slA_take (K := K) i rfl (by rw [fds_len]; omega) r_y fun q1 Hf1 sf1 r_q1 => ?_⟩
        rw [fds_take] at r_q1
        replace hB := hB.keep fun a o e _ => sf1 a o e
        replace r_y := r_y.on (KT.same sf1)
        replace hys := (KT.same sf1).sqt hys
        replace r_fv := r_fv.on (KT.same sf1)
        replace r_v := r_v.on (KT.same sf1)
        replace S := S.sm sf1
        refine ⟨_, rfl, _, rfl, _, rfl, b, c, v, r, rfl, hB, hrw, hrF, r_v, fun z kz Hz kz0 kz1 sz hBz r_z => ?_⟩
        replace r_y := r_y.on (hB.kts sz)
        replace hys := (hB.kts sz).sqt hys
        replace r_fv := r_fv.on (hB.kts sz)
        replace r_v := r_v.on (hB.kts sz)
        replace r_q1 := r_q1.on (hB.kts sz)
        replace S := S.trans sz
        replace hB := hBz
        refine ⟨(show 2 ≤ sizeLine by decide), fun nf h_nf => ?_⟩
        have s_nf : Sm Hz (upd Hz nf (.tup [.str r.label, z])) := Sm.new h_nf
        have r_nf : Rp K (upd Hz nf (.tup [.str r.label, z])) (.ref nf) (.tuple _) := Rp.mk upd_same (RpAll.on (.cons (.str _ hld) (.cons r_z .nil)) (KT.upd_new h_nf))
        replace hB := hB.keep fun a o e _ => s_nf a o e
        replace r_y := r_y.on (KT.same s_nf)
        replace hys := (KT.same s_nf).sqt hys
        replace r_fv := r_fv.on (KT.same s_nf)
        replace r_v := r_v.on (KT.same s_nf)
        replace r_q1 := r_q1.on (KT.same s_nf)
        replace r_z := r_z.on (KT.same s_nf)
        replace S := S.sm s_nf
        clear h_nf
        clear s_nf
        generalize (upd Hz nf (.tup [.str r.label, z])) = Hq2 at hB r_y hys r_fv r_v r_q1 r_z r_nf S ⊢
        refine ⟨(show 1 ≤ sizeLine by decide), fun m1 h_m1 => ?_⟩
        have s_m1 : Sm Hq2 (upd Hq2 m1 (.tup [.ref nf])) := Sm.new h_m1
        have r_m1 : Rp K (upd Hq2 m1 (.tup [.ref nf])) (.ref m1) (.tuple _) := Rp.mk upd_same (RpAll.on (.cons r_nf .nil) (KT.upd_new h_m1))
        replace hB := hB.keep fun a o e _ => s_m1 a o e
        replace r_y := r_y.on (KT.same s_m1)
        replace hys := (KT.same s_m1).sqt hys
        replace r_fv := r_fv.on (KT.same s_m1)
        replace r_v := r_v.on (KT.same s_m1)
        replace r_q1 := r_q1.on (KT.same s_m1)
        replace r_z := r_z.on (KT.same s_m1)
        replace r_nf := r_nf.on (KT.same s_m1)
        replace S := S.sm s_m1
        clear h_m1
        clear s_m1
        generalize (upd Hq2 m1 (.tup [.ref nf])) = Hq3 at hB r_y hys r_fv r_v r_q1 r_z r_nf r_m1 S ⊢
        refine catA_rp (K := K) r_q1 r_m1 (by rw [fds_len, List.length_take]; exact small_le (by simp; omega)) fun q2 Hf2 sf2 r_q2 => ?_
        replace hB := hB.keep fun a o e _ => sf2 a o e
        replace r_y := r_y.on (KT.same sf2)
        replace hys := (KT.same sf2).sqt hys
        replace r_fv := r_fv.on (KT.same sf2)
        replace r_v := r_v.on (KT.same sf2)
        replace r_q1 := r_q1.on (KT.same sf2)
        replace r_z := r_z.on (KT.same sf2)
        replace r_nf := r_nf.on (KT.same sf2)
        replace r_m1 := r_m1.on (KT.same sf2)
        replace S := S.sm sf2
        refine ⟨_, rfl, _, rfl, _, _, rfl, rfl, _, rfl, ?_⟩
        dsimp only [tNoPart]
        refine (slA_drop (K := K) (i + 1) (by push_cast; rfl) (by rw [fds_len]; omega) r_y fun q3 Hf3 sf3 r_q3 => ?_)
        rw [fds_drop] at r_q3
        replace hB := hB.keep fun a o e _ => sf3 a o e
        replace r_y := r_y.on (KT.same sf3)
        replace hys := (KT.same sf3).sqt hys
        replace r_fv := r_fv.on (KT.same sf3)
        replace r_v := r_v.on (KT.same sf3)
        replace r_q1 := r_q1.on (KT.same sf3)
        replace r_z := r_z.on (KT.same sf3)
        replace r_nf := r_nf.on (KT.same sf3)
        replace r_m1 := r_m1.on (KT.same sf3)
        replace r_q2 := r_q2.on (KT.same sf3)
        replace S := S.sm sf3
        refine catA_rp (K := K) r_q2 r_q3 (by rw [List.length_append, fds_len, fds_len, List.length_take, List.length_drop]; exact small_le (by simp; omega)) fun q4 Hf4 sf4 r_q4 => ?_
        replace hB := hB.keep fun a o e _ => sf4 a o e
        replace r_y := r_y.on (KT.same sf4)
        replace hys := (KT.same sf4).sqt hys
        replace r_fv := r_fv.on (KT.same sf4)
        replace r_v := r_v.on (KT.same sf4)
        replace r_q1 := r_q1.on (KT.same sf4)
        replace r_z := r_z.on (KT.same sf4)
        replace r_nf := r_nf.on (KT.same sf4)
        replace r_m1 := r_m1.on (KT.same sf4)
        replace r_q2 := r_q2.on (KT.same sf4)
        replace r_q3 := r_q3.on (KT.same sf4)
        replace S := S.sm sf4
        exact k _ ((Rw.fls rs).take i ++ [(r.label, othF kz r.fv)] ++ (Rw.fls rs).drop (i + 1)) _ S hB (by rw [fds_app, fds_app]; simpa [Fv.ds] using r_q4) (foks_app (foks_app (foks_take _ hfo) (foks_one (oth_ok kz r.fv (fv_ok r hrw) fun fs e => hrec fs e))) (foks_drop _ hfo)) (by rw [List.length_append, List.length_append, List.length_take, List.length_drop]; simp; omega) fun d hd => bad_val ep er (oth_bad hd kz kz0 kz1 r hrw hrF)
    rw [decide_eq_false hk1]
    refine iteF (A := _) ?_
    refine ⟨_, rfl, rfl, _, rfl, ?_⟩
    rw [dec_i]
    by_cases hk2 : kd = 2
    · rw [decide_eq_true hk2]
      refine iteT (B := _) ?_
      refine ⟨_, rfl, _, rfl, _, rfl, slA_take (K := K) i rfl (by rw [fds_len]; omega) r_y fun q1 Hf1 sf1 r_q1 => ?_⟩
      rw [fds_take] at r_q1
      replace hB := hB.keep fun a o e _ => sf1 a o e
      replace r_y := r_y.on (KT.same sf1)
      replace hys := (KT.same sf1).sqt hys
      replace r_fv := r_fv.on (KT.same sf1)
      replace r_v := r_v.on (KT.same sf1)
      replace S := S.sm sf1
      refine ⟨_, rfl, _, _, rfl, rfl, (small_le (show r.label.length + ("x" : Str).length ≤ 100000 by have h1 : ("x" : Str).length = 1 := (by decide +kernel); omega)), _, rfl, (show 2 ≤ sizeLine by decide), fun nf h_nf => ?_⟩
      have s_nf : Sm Hf1 (upd Hf1 nf (.tup [.str (r.label ++ ("x" : Str)), v])) := Sm.new h_nf
      have r_nf : Rp K (upd Hf1 nf (.tup [.str (r.label ++ ("x" : Str)), v])) (.ref nf) (.tuple _) := Rp.mk upd_same (RpAll.on (.cons (.str _ (strOk_app hld (by decide +kernel))) (.cons r_v .nil)) (KT.upd_new h_nf))
      replace hB := hB.keep fun a o e _ => s_nf a o e
      replace r_y := r_y.on (KT.same s_nf)
      replace hys := (KT.same s_nf).sqt hys
      replace r_fv := r_fv.on (KT.same s_nf)
      replace r_v := r_v.on (KT.same s_nf)
      replace r_q1 := r_q1.on (KT.same s_nf)
      replace S := S.sm s_nf
      clear h_nf
      clear s_nf
      generalize (upd Hf1 nf (.tup [.str (r.label ++ ("x" : Str)), v])) = Hq4 at hB r_y hys r_fv r_v r_q1 r_nf S ⊢
      refine ⟨(show 1 ≤ sizeLine by decide), fun m1 h_m1 => ?_⟩
      have s_m1 : Sm Hq4 (upd Hq4 m1 (.tup [.ref nf])) := Sm.new h_m1
      have r_m1 : Rp K (upd Hq4 m1 (.tup [.ref nf])) (.ref m1) (.tuple _) := Rp.mk upd_same (RpAll.on (.cons r_nf .nil) (KT.upd_new h_m1))
      replace hB := hB.keep fun a o e _ => s_m1 a o e
      replace r_y := r_y.on (KT.same s_m1)
      replace hys := (KT.same s_m1).sqt hys
      replace r_fv := r_fv.on (KT.same s_m1)
      replace r_v := r_v.on (KT.same s_m1)
      replace r_q1 := r_q1.on (KT.same s_m1)
      replace r_nf := r_nf.on (KT.same s_m1)
      replace S := S.sm s_m1
      clear h_m1
      clear s_m1
      generalize (upd Hq4 m1 (.tup [.ref nf])) = Hq5 at hB r_y hys r_fv r_v r_q1 r_nf r_m1 S ⊢
      refine catA_rp (K := K) r_q1 r_m1 (by rw [fds_len, List.length_take]; exact small_le (by simp; omega)) fun q2 Hf2 sf2 r_q2 => ?_
      replace hB := hB.keep fun a o e _ => sf2 a o e
      replace r_y := r_y.on (KT.same sf2)
      replace hys := (KT.same sf2).sqt hys
      replace r_fv := r_fv.on (KT.same sf2)
      replace r_v := r_v.on (KT.same sf2)
      replace r_q1 := r_q1.on (KT.same sf2)
      replace r_nf := r_nf.on (KT.same sf2)
      replace r_m1 := r_m1.on (KT.same sf2)
      replace S := S.sm sf2
      refine ⟨_, rfl, _, rfl, _, _, rfl, rfl, _, rfl, ?_⟩
      dsimp only [tNoPart]
      refine (slA_drop (K := K) (i + 1) (by push_cast; rfl) (by rw [fds_len]; omega) r_y fun q3 Hf3 sf3 r_q3 => ?_)
      rw [fds_drop] at r_q3
      replace hB := hB.keep fun a o e _ => sf3 a o e
      replace r_y := r_y.on (KT.same sf3)
      replace hys := (KT.same sf3).sqt hys
      replace r_fv := r_fv.on (KT.same sf3)
      replace r_v := r_v.on (KT.same sf3)
      replace r_q1 := r_q1.on (KT.same sf3)
      replace r_nf := r_nf.on (KT.same sf3)
      replace r_m1 := r_m1.on (KT.same sf3)
      replace r_q2 := r_q2.on (KT.same sf3)
      replace S := S.sm sf3
      refine catA_rp (K := K) r_q2 r_q3 (by rw [List.length_append, fds_len, fds_len, List.length_take, List.length_drop]; exact small_le (by simp; omega)) fun q4 Hf4 sf4 r_q4 => ?_
      replace hB := hB.keep fun a o e _ => sf4 a o e
      replace r_y := r_y.on (KT.same sf4)
      replace hys := (KT.same sf4).sqt hys
      replace r_fv := r_fv.on (KT.same sf4)
      replace r_v := r_v.on (KT.same sf4)
      replace r_q1 := r_q1.on (KT.same sf4)
      replace r_nf := r_nf.on (KT.same sf4)
      replace r_m1 := r_m1.on (KT.same sf4)
      replace r_q2 := r_q2.on (KT.same sf4)
      replace r_q3 := r_q3.on (KT.same sf4)
      replace S := S.sm sf4
      exact k _ ((Rw.fls rs).take i ++ [(r.label ++ ("x" : Str), r.fv)] ++ (Rw.fls rs).drop (i + 1)) _ S hB (by rw [fds_app, fds_app]; simpa [Fv.ds] using r_q4) (foks_app (foks_app (foks_take _ hfo) (foks_one (fv_ok r hrw))) (foks_drop _ hfo)) (by rw [List.length_append, List.length_append, List.length_take, List.length_drop]; simp; omega) fun d hd => bad_name ep
    rw [decide_eq_false hk2]
    refine iteF (A := _) ?_
    refine ⟨_, rfl, rfl, _, rfl, ?_⟩
    rw [dec_i]
    by_cases hk3 : kd = 3
    · rw [decide_eq_true hk3]
      refine iteT (B := _) ?_
      obtain ⟨va, vs, rfl, hva⟩ := inv_fv r.fv r_v
      refine ⟨_, rfl, va, _, _, _, rfl, rfl, hva, at0, rfl, _, rfl, ?_⟩
      rw [dec_s]
      by_cases ht : r.fv.vl.tag = "record"
      · rw [decide_eq_true ht]
        refine iteT (B := _) ?_
        obtain ⟨fs, efs⟩ := (tag_of r.fv (fv_ok r hrw)).2 ht
        have hr2 := r_v
        rw [efs] at hr2
        obtain ⟨va', g, gs, ev, hv', hg, hgs⟩ := inv_rcd hr2
        cases ev
        refine ⟨_, rfl, va, _, _, _, rfl, rfl, hv', at1, g, _, rfl, .inr hg, _, _, rfl, rfl, _, rfl, ?_⟩
        by_cases hg0 : ((gs.length : Nat) : Int) > 0
        · rw [decide_eq_true hg0]
          refine iteT (B := _) ?_
          -- within
          cases r with
          | mod nm rs2 =>
            simp only [Rw.fv] at efs
            cases efs
            simp only [Rw.wf] at hrw
            have hd2 := Nat.le_trans (rdeps_mem mr) hdeps
            simp only [Rw.dep] at hd2
            obtain ⟨n, rfl⟩ : ∃ j, n = j + 1 := ⟨n - 1, by omega⟩
            have r_g : Rp K H2 (.ref g) (.tuple (Fv.ds (Rw.fls rs2))) := .tup hg hgs
            have hg1 : 0 < (Rw.fls rs2).length := by
              have := hgs.length
              rw [fds_len] at this
              omega
            clear hg hgs hr2 hva
            refine ⟨_, rfl, _, rfl, _, rfl, slA_take (K := K) i rfl (by rw [fds_len]; omega) r_y fun q1 Hf1 sf1 r_q1 => ?_⟩
            rw [fds_take] at r_q1
            replace hB := hB.keep fun a o e _ => sf1 a o e
            replace r_y := r_y.on (KT.same sf1)
            replace hys := (KT.same sf1).sqt hys
            replace r_fv := r_fv.on (KT.same sf1)
            replace r_v := r_v.on (KT.same sf1)
            replace hv' := (KT.same sf1).sqt hv'
            replace r_g := r_g.on (KT.same sf1)
            replace S := S.sm sf1
            refine ⟨_, rfl, _, rfl, _, rfl, va, _, _, _, rfl, rfl, hv', at1, b, c, .ref g, rs2, rfl, hB, hrw.2.1, hrw.2.2.1, hrw.2.2.2, by omega, hg1, r_g, fun z fs2 Hz sz hBz r_z ok2 len2 bad2 => ?_⟩
            replace r_y := r_y.on (hB.kts sz)
            replace hys := (hB.kts sz).sqt hys
            replace r_fv := r_fv.on (hB.kts sz)
            replace r_v := r_v.on (hB.kts sz)
            replace hv' := (hB.kts sz).sqt hv'
            replace r_g := r_g.on (hB.kts sz)
            replace r_q1 := r_q1.on (hB.kts sz)
            replace S := S.trans sz
            replace hB := hBz
            refine ⟨(show 2 ≤ sizeLine by decide), fun nr h_nr => ?_⟩
            have s_nr : Sm Hz (upd Hz nr (.tup [.str "record", z])) := Sm.new h_nr
            have r_nr : Rp K (upd Hz nr (.tup [.str "record", z])) (.ref nr) (.tuple _) := Rp.mk upd_same (RpAll.on (.cons sok (.cons r_z .nil)) (KT.upd_new h_nr))
            replace hB := hB.keep fun a o e _ => s_nr a o e
            replace r_y := r_y.on (KT.same s_nr)
            replace hys := (KT.same s_nr).sqt hys
            replace r_fv := r_fv.on (KT.same s_nr)
            replace r_v := r_v.on (KT.same s_nr)
            replace hv' := (KT.same s_nr).sqt hv'
            replace r_g := r_g.on (KT.same s_nr)
            replace r_q1 := r_q1.on (KT.same s_nr)
            replace r_z := r_z.on (KT.same s_nr)
            replace S := S.sm s_nr
            clear h_nr
            clear s_nr
            generalize (upd Hz nr (.tup [.str "record", z])) = Hq6 at hB r_y hys r_fv r_v hv' r_g r_q1 r_z r_nr S ⊢
            refine ⟨(show 2 ≤ sizeLine by decide), fun nf h_nf => ?_⟩
            have s_nf : Sm Hq6 (upd Hq6 nf (.tup [.str (Rw.mod nm rs2).label, .ref nr])) := Sm.new h_nf
            have r_nf : Rp K (upd Hq6 nf (.tup [.str (Rw.mod nm rs2).label, .ref nr])) (.ref nf) (.tuple _) := Rp.mk upd_same (RpAll.on (.cons (.str _ hld) (.cons r_nr .nil)) (KT.upd_new h_nf))
            replace hB := hB.keep fun a o e _ => s_nf a o e
            replace r_y := r_y.on (KT.same s_nf)
            replace hys := (KT.same s_nf).sqt hys
            replace r_fv := r_fv.on (KT.same s_nf)
            replace r_v := r_v.on (KT.same s_nf)
            replace hv' := (KT.same s_nf).sqt hv'
            replace r_g := r_g.on (KT.same s_nf)
            replace r_q1 := r_q1.on (KT.same s_nf)
            replace r_z := r_z.on (KT.same s_nf)
            replace r_nr := r_nr.on (KT.same s_nf)
            replace S := S.sm s_nf
            clear h_nf
            clear s_nf
            generalize (upd Hq6 nf (.tup [.str (Rw.mod nm rs2).label, .ref nr])) = Hq7 at hB r_y hys r_fv r_v hv' r_g r_q1 r_z r_nr r_nf S ⊢
            refine ⟨(show 1 ≤ sizeLine by decide), fun m1 h_m1 => ?_⟩
            have s_m1 : Sm Hq7 (upd Hq7 m1 (.tup [.ref nf])) := Sm.new h_m1
            have r_m1 : Rp K (upd Hq7 m1 (.tup [.ref nf])) (.ref m1) (.tuple _) := Rp.mk upd_same (RpAll.on (.cons r_nf .nil) (KT.upd_new h_m1))
            replace hB := hB.keep fun a o e _ => s_m1 a o e
            replace r_y := r_y.on (KT.same s_m1)
            replace hys := (KT.same s_m1).sqt hys
            replace r_fv := r_fv.on (KT.same s_m1)
            replace r_v := r_v.on (KT.same s_m1)
            replace hv' := (KT.same s_m1).sqt hv'
            replace r_g := r_g.on (KT.same s_m1)
            replace r_q1 := r_q1.on (KT.same s_m1)
            replace r_z := r_z.on (KT.same s_m1)
            replace r_nr := r_nr.on (KT.same s_m1)
            replace r_nf := r_nf.on (KT.same s_m1)
            replace S := S.sm s_m1
            clear h_m1
            clear s_m1
            generalize (upd Hq7 m1 (.tup [.ref nf])) = Hq8 at hB r_y hys r_fv r_v hv' r_g r_q1 r_z r_nr r_nf r_m1 S ⊢
            refine catA_rp (K := K) r_q1 r_m1 (by rw [fds_len, List.length_take]; exact small_le (by simp; omega)) fun q2 Hf2 sf2 r_q2 => ?_
            replace hB := hB.keep fun a o e _ => sf2 a o e
            replace r_y := r_y.on (KT.same sf2)
            replace hys := (KT.same sf2).sqt hys
            replace r_fv := r_fv.on (KT.same sf2)
            replace r_v := r_v.on (KT.same sf2)
            replace hv' := (KT.same sf2).sqt hv'
            replace r_g := r_g.on (KT.same sf2)
            replace r_q1 := r_q1.on (KT.same sf2)
            replace r_z := r_z.on (KT.same sf2)
            replace r_nr := r_nr.on (KT.same sf2)
            replace r_nf := r_nf.on (KT.same sf2)
            replace r_m1 := r_m1.on (KT.same sf2)
            replace S := S.sm sf2
            refine ⟨_, rfl, _, rfl, _, _, rfl, rfl, _, rfl, ?_⟩
            dsimp only [tNoPart]
            refine (slA_drop (K := K) (i + 1) (by push_cast; rfl) (by rw [fds_len]; omega) r_y fun q3 Hf3 sf3 r_q3 => ?_)
            rw [fds_drop] at r_q3
            replace hB := hB.keep fun a o e _ => sf3 a o e
            replace r_y := r_y.on (KT.same sf3)
            replace hys := (KT.same sf3).sqt hys
            replace r_fv := r_fv.on (KT.same sf3)
            replace r_v := r_v.on (KT.same sf3)
            replace hv' := (KT.same sf3).sqt hv'
            replace r_g := r_g.on (KT.same sf3)
            replace r_q1 := r_q1.on (KT.same sf3)
            replace r_z := r_z.on (KT.same sf3)
            replace r_nr := r_nr.on (KT.same sf3)
            replace r_nf := r_nf.on (KT.same sf3)
            replace r_m1 := r_m1.on (KT.same sf3)
            replace r_q2 := r_q2.on (KT.same sf3)
            replace S := S.sm sf3
            refine catA_rp (K := K) r_q2 r_q3 (by rw [List.length_append, fds_len, fds_len, List.length_take, List.length_drop]; exact small_le (by simp; omega)) fun q4 Hf4 sf4 r_q4 => ?_
            replace hB := hB.keep fun a o e _ => sf4 a o e
            replace r_y := r_y.on (KT.same sf4)
            replace hys := (KT.same sf4).sqt hys
            replace r_fv := r_fv.on (KT.same sf4)
            replace r_v := r_v.on (KT.same sf4)
            replace hv' := (KT.same sf4).sqt hv'
            replace r_g := r_g.on (KT.same sf4)
            replace r_q1 := r_q1.on (KT.same sf4)
            replace r_z := r_z.on (KT.same sf4)
            replace r_nr := r_nr.on (KT.same sf4)
            replace r_nf := r_nf.on (KT.same sf4)
            replace r_m1 := r_m1.on (KT.same sf4)
            replace r_q2 := r_q2.on (KT.same sf4)
            replace r_q3 := r_q3.on (KT.same sf4)
            replace S := S.sm sf4
            exact k _ ((Rw.fls rs).take i ++ [((Rw.mod nm rs2).label, Fv.rcd fs2)] ++ (Rw.fls rs).drop (i + 1)) _ S hB (by rw [fds_app, fds_app]; simpa [Fv.ds, Fv.d] using r_q4) (foks_app (foks_app (foks_take _ hfo) (foks_one (by simp only [Fv.ok]; exact ⟨len2, ok2⟩))) (foks_drop _ hfo)) (by rw [List.length_append, List.length_append, List.length_take, List.length_drop]; simp; omega) fun d hd => bad_val ep er (by simp only [Rw.agr]; exact bad2 d hd)
          | val n k0 =>
            match k0, ht with
            | 0, ht => exact absurd ht (by show ¬ (("int" : Str) = "record"); decide +kernel)
            | 1, ht => exact absurd ht (by show ¬ (("tuple" : Str) = "record"); decide +kernel)
            | 2, ht => exact absurd ht (by show ¬ (("fun" : Str) = "record"); decide +kernel)
            | k0 + 3, ht => exact absurd ht (by show ¬ (("con" : Str) = "record"); decide +kernel)
          | exn n a i => exact absurd ht (by show ¬ (("exn" : Str) = "record"); decide +kernel)
          | fn n => exact absurd ht (by show ¬ (("fun" : Str) = "record"); decide +kernel)
          | shp => cases hrF
        · rw [decide_eq_false hg0]
          refine iteF (A := _) ?_
          clear hgs hg hv' hr2
          subst hk3
          refine ⟨_, rfl, rfl, _, rfl, iteN (by decide) ?_⟩
          refine ⟨_, rfl, _, rfl, _, rfl, slA_take (K := K) i rfl (by rw [fds_len]; omega) r_y fun q1 Hf1 sf1 r_q1 => ?_⟩
          rw [fds_take] at r_q1
          replace hB := hB.keep fun a o e _ => sf1 a o e
          replace r_y := r_y.on (KT.same sf1)
          replace hys := (KT.same sf1).sqt hys
          replace r_fv := r_fv.on (KT.same sf1)
          replace r_v := r_v.on (KT.same sf1)
          replace S := S.sm sf1
          refine ⟨_, rfl, _, rfl, _, rfl, b, c, .ref va, r, rfl, hB, hrw, hrF, r_v, fun z kz Hz kz0 kz1 sz hBz r_z => ?_⟩
          replace r_y := r_y.on (hB.kts sz)
          replace hys := (hB.kts sz).sqt hys
          replace r_fv := r_fv.on (hB.kts sz)
          replace r_v := r_v.on (hB.kts sz)
          replace r_q1 := r_q1.on (hB.kts sz)
          replace S := S.trans sz
          replace hB := hBz
          refine ⟨(show 2 ≤ sizeLine by decide), fun nf h_nf => ?_⟩
          have s_nf : Sm Hz (upd Hz nf (.tup [.str r.label, z])) := Sm.new h_nf
          have r_nf : Rp K (upd Hz nf (.tup [.str r.label, z])) (.ref nf) (.tuple _) := Rp.mk upd_same (RpAll.on (.cons (.str _ hld) (.cons r_z .nil)) (KT.upd_new h_nf))
          replace hB := hB.keep fun a o e _ => s_nf a o e
          replace r_y := r_y.on (KT.same s_nf)
          replace hys := (KT.same s_nf).sqt hys
          replace r_fv := r_fv.on (KT.same s_nf)
          replace r_v := r_v.on (KT.same s_nf)
          replace r_q1 := r_q1.on (KT.same s_nf)
          replace r_z := r_z.on (KT.same s_nf)
          replace S := S.sm s_nf
          clear h_nf
          clear s_nf
          generalize (upd Hz nf (.tup [.str r.label, z])) = Hq9 at hB r_y hys r_fv r_v r_q1 r_z r_nf S ⊢
          refine ⟨(show 1 ≤ sizeLine by decide), fun m1 h_m1 => ?_⟩
          have s_m1 : Sm Hq9 (upd Hq9 m1 (.tup [.ref nf])) := Sm.new h_m1
          have r_m1 : Rp K (upd Hq9 m1 (.tup [.ref nf])) (.ref m1) (.tuple _) := Rp.mk upd_same (RpAll.on (.cons r_nf .nil) (KT.upd_new h_m1))
          replace hB := hB.keep fun a o e _ => s_m1 a o e
          replace r_y := r_y.on (KT.same s_m1)
          replace hys := (KT.same s_m1).sqt hys
          replace r_fv := r_fv.on (KT.same s_m1)
          replace r_v := r_v.on (KT.same s_m1)
          replace r_q1 := r_q1.on (KT.same s_m1)
          replace r_z := r_z.on (KT.same s_m1)
          replace r_nf := r_nf.on (KT.same s_m1)
          replace S := S.sm s_m1
          clear h_m1
          clear s_m1
          generalize (upd Hq9 m1 (.tup [.ref nf])) = Hq10 at hB r_y hys r_fv r_v r_q1 r_z r_nf r_m1 S ⊢
          refine catA_rp (K := K) r_q1 r_m1 (by rw [fds_len, List.length_take]; exact small_le (by simp; omega)) fun q2 Hf2 sf2 r_q2 => ?_
          replace hB := hB.keep fun a o e _ => sf2 a o e
          replace r_y := r_y.on (KT.same sf2)
          replace hys := (KT.same sf2).sqt hys
          replace r_fv := r_fv.on (KT.same sf2)
          replace r_v := r_v.on (KT.same sf2)
          replace r_q1 := r_q1.on (KT.same sf2)
          replace r_z := r_z.on (KT.same sf2)
          replace r_nf := r_nf.on (KT.same sf2)
          replace r_m1 := r_m1.on (KT.same sf2)
          replace S := S.sm sf2
          refine ⟨_, rfl, _, rfl, _, _, rfl, rfl, _, rfl, ?_⟩
          dsimp only [tNoPart]
          refine (slA_drop (K := K) (i + 1) (by push_cast; rfl) (by rw [fds_len]; omega) r_y fun q3 Hf3 sf3 r_q3 => ?_)
          rw [fds_drop] at r_q3
          replace hB := hB.keep fun a o e _ => sf3 a o e
          replace r_y := r_y.on (KT.same sf3)
          replace hys := (KT.same sf3).sqt hys
          replace r_fv := r_fv.on (KT.same sf3)
          replace r_v := r_v.on (KT.same sf3)
          replace r_q1 := r_q1.on (KT.same sf3)
          replace r_z := r_z.on (KT.same sf3)
          replace r_nf := r_nf.on (KT.same sf3)
          replace r_m1 := r_m1.on (KT.same sf3)
          replace r_q2 := r_q2.on (KT.same sf3)
          replace S := S.sm sf3
          refine catA_rp (K := K) r_q2 r_q3 (by rw [List.length_append, fds_len, fds_len, List.length_take, List.length_drop]; exact small_le (by simp; omega)) fun q4 Hf4 sf4 r_q4 => ?_
          replace hB := hB.keep fun a o e _ => sf4 a o e
          replace r_y := r_y.on (KT.same sf4)
          replace hys := (KT.same sf4).sqt hys
          replace r_fv := r_fv.on (KT.same sf4)
          replace r_v := r_v.on (KT.same sf4)
          replace r_q1 := r_q1.on (KT.same sf4)
          replace r_z := r_z.on (KT.same sf4)
          replace r_nf := r_nf.on (KT.same sf4)
          replace r_m1 := r_m1.on (KT.same sf4)
          replace r_q2 := r_q2.on (KT.same sf4)
          replace r_q3 := r_q3.on (KT.same sf4)
          replace S := S.sm sf4
          exact k _ ((Rw.fls rs).take i ++ [(r.label, othF kz r.fv)] ++ (Rw.fls rs).drop (i + 1)) _ S hB (by rw [fds_app, fds_app]; simpa [Fv.ds] using r_q4) (foks_app (foks_app (foks_take _ hfo) (foks_one (oth_ok kz r.fv (fv_ok r hrw) fun fs e => hrec fs e))) (foks_drop _ hfo)) (by rw [List.length_append, List.length_append, List.length_take, List.length_drop]; simp; omega) fun d hd => bad_val ep er (oth_bad hd kz kz0 kz1 r hrw hrF)
      · rw [decide_eq_false ht]
        refine iteF (A := _) ?_
        subst hk3
        refine ⟨_, rfl, rfl, _, rfl, iteN (by decide) ?_⟩
        refine ⟨_, rfl, _, rfl, _, rfl, slA_take (K := K) i rfl (by rw [fds_len]; omega) r_y fun q1 Hf1 sf1 r_q1 => ?_⟩
        rw [fds_take] at r_q1
        replace hB := hB.keep fun a o e _ => sf1 a o e
        replace r_y := r_y.on (KT.same sf1)
        replace hys := (KT.same sf1).sqt hys
        replace r_fv := r_fv.on (KT.same sf1)
        replace r_v := r_v.on (KT.same sf1)
        replace S := S.sm sf1
        refine ⟨_, rfl, _, rfl, _, rfl, b, c, .ref va, r, rfl, hB, hrw, hrF, r_v, fun z kz Hz kz0 kz1 sz hBz r_z => ?_⟩
        replace r_y := r_y.on (hB.kts sz)
        replace hys := (hB.kts sz).sqt hys
        replace r_fv := r_fv.on (hB.kts sz)
        replace r_v := r_v.on (hB.kts sz)
        replace r_q1 := r_q1.on (hB.kts sz)
        replace S := S.trans sz
        replace hB := hBz
        refine ⟨(show 2 ≤ sizeLine by decide), fun nf h_nf => ?_⟩
        have s_nf : Sm Hz (upd Hz nf (.tup [.str r.label, z])) := Sm.new h_nf
        have r_nf : Rp K (upd Hz nf (.tup [.str r.label, z])) (.ref nf) (.tuple _) := Rp.mk upd_same (RpAll.on (.cons (.str _ hld) (.cons r_z .nil)) (KT.upd_new h_nf))
        replace hB := hB.keep fun a o e _ => s_nf a o e
        replace r_y := r_y.on (KT.same s_nf)
        replace hys := (KT.same s_nf).sqt hys
        replace r_fv := r_fv.on (KT.same s_nf)
        replace r_v := r_v.on (KT.same s_nf)
        replace r_q1 := r_q1.on (KT.same s_nf)
        replace r_z := r_z.on (KT.same s_nf)
        replace S := S.sm s_nf
        clear h_nf
        clear s_nf
        generalize (upd Hz nf (.tup [.str r.label, z])) = Hq11 at hB r_y hys r_fv r_v r_q1 r_z r_nf S ⊢
        refine ⟨(show 1 ≤ sizeLine by decide), fun m1 h_m1 => ?_⟩
        have s_m1 : Sm Hq11 (upd Hq11 m1 (.tup [.ref nf])) := Sm.new h_m1
        have r_m1 : Rp K (upd Hq11 m1 (.tup [.ref nf])) (.ref m1) (.tuple _) := Rp.mk upd_same (RpAll.on (.cons r_nf .nil) (KT.upd_new h_m1))
        replace hB := hB.keep fun a o e _ => s_m1 a o e
        replace r_y := r_y.on (KT.same s_m1)
        replace hys := (KT.same s_m1).sqt hys
        replace r_fv := r_fv.on (KT.same s_m1)
        replace r_v := r_v.on (KT.same s_m1)
        replace r_q1 := r_q1.on (KT.same s_m1)
        replace r_z := r_z.on (KT.same s_m1)
        replace r_nf := r_nf.on (KT.same s_m1)
        replace S := S.sm s_m1
        clear h_m1
        clear s_m1
        generalize (upd Hq11 m1 (.tup [.ref nf])) = Hq12 at hB r_y hys r_fv r_v r_q1 r_z r_nf r_m1 S ⊢
        refine catA_rp (K := K) r_q1 r_m1 (by rw [fds_len, List.length_take]; exact small_le (by simp; omega)) fun q2 Hf2 sf2 r_q2 => ?_
        replace hB := hB.keep fun a o e _ => sf2 a o e
        replace r_y := r_y.on (KT.same sf2)
        replace hys := (KT.same sf2).sqt hys
        replace r_fv := r_fv.on (KT.same sf2)
        replace r_v := r_v.on (KT.same sf2)
        replace r_q1 := r_q1.on (KT.same sf2)
        replace r_z := r_z.on (KT.same sf2)
        replace r_nf := r_nf.on (KT.same sf2)
        replace r_m1 := r_m1.on (KT.same sf2)
        replace S := S.sm sf2
        refine ⟨_, rfl, _, rfl, _, _, rfl, rfl, _, rfl, ?_⟩
        dsimp only [tNoPart]
        refine (slA_drop (K := K) (i + 1) (by push_cast; rfl) (by rw [fds_len]; omega) r_y fun q3 Hf3 sf3 r_q3 => ?_)
        rw [fds_drop] at r_q3
        replace hB := hB.keep fun a o e _ => sf3 a o e
        replace r_y := r_y.on (KT.same sf3)
        replace hys := (KT.same sf3).sqt hys
        replace r_fv := r_fv.on (KT.same sf3)
        replace r_v := r_v.on (KT.same sf3)
        replace r_q1 := r_q1.on (KT.same sf3)
        replace r_z := r_z.on (KT.same sf3)
        replace r_nf := r_nf.on (KT.same sf3)
        replace r_m1 := r_m1.on (KT.same sf3)
        replace r_q2 := r_q2.on (KT.same sf3)
        replace S := S.sm sf3
        refine catA_rp (K := K) r_q2 r_q3 (by rw [List.length_append, fds_len, fds_len, List.length_take, List.length_drop]; exact small_le (by simp; omega)) fun q4 Hf4 sf4 r_q4 => ?_
        replace hB := hB.keep fun a o e _ => sf4 a o e
        replace r_y := r_y.on (KT.same sf4)
        replace hys := (KT.same sf4).sqt hys
        replace r_fv := r_fv.on (KT.same sf4)
        replace r_v := r_v.on (KT.same sf4)
        replace r_q1 := r_q1.on (KT.same sf4)
        replace r_z := r_z.on (KT.same sf4)
        replace r_nf := r_nf.on (KT.same sf4)
        replace r_m1 := r_m1.on (KT.same sf4)
        replace r_q2 := r_q2.on (KT.same sf4)
        replace r_q3 := r_q3.on (KT.same sf4)
        replace S := S.sm sf4
        exact k _ ((Rw.fls rs).take i ++ [(r.label, othF kz r.fv)] ++ (Rw.fls rs).drop (i + 1)) _ S hB (by rw [fds_app, fds_app]; simpa [Fv.ds] using r_q4) (foks_app (foks_app (foks_take _ hfo) (foks_one (oth_ok kz r.fv (fv_ok r hrw) fun fs e => hrec fs e))) (foks_drop _ hfo)) (by rw [List.length_append, List.length_append, List.length_take, List.length_drop]; simp; omega) fun d hd => bad_val ep er (oth_bad hd kz kz0 kz1 r hrw hrF)
    rw [decide_eq_false hk3]
    refine iteF (A := _) ?_
    refine ⟨_, rfl, rfl, _, rfl, ?_⟩
    rw [dec_i, decide_eq_true (show kd = 4 by omega)]
    refine iteT (B := _) ?_
    refine ⟨_, rfl, (show 2 ≤ sizeLine by decide), fun z0 h_z0 => ?_⟩
    have s_z0 : Sm H2 (upd H2 z0 (.tup [.str "int", .int 0])) := Sm.new h_z0
    have r_z0 : Rp K (upd H2 z0 (.tup [.str "int", .int 0])) (.ref z0) (.tuple _) := Rp.mk upd_same (RpAll.on (.cons sok (.cons (.int _) .nil)) (KT.upd_new h_z0))
    replace hB := hB.keep fun a o e _ => s_z0 a o e
    replace r_y := r_y.on (KT.same s_z0)
    replace hys := (KT.same s_z0).sqt hys
    replace r_fv := r_fv.on (KT.same s_z0)
    replace r_v := r_v.on (KT.same s_z0)
    replace S := S.sm s_z0
    clear h_z0
    clear s_z0
    generalize (upd H2 z0 (.tup [.str "int", .int 0])) = Hq13 at hB r_y hys r_fv r_v r_z0 S ⊢
    refine ⟨(show 2 ≤ sizeLine by decide), fun z1 h_z1 => ?_⟩
    have s_z1 : Sm Hq13 (upd Hq13 z1 (.tup [.str "val z", .ref z0])) := Sm.new h_z1
    have r_z1 : Rp K (upd Hq13 z1 (.tup [.str "val z", .ref z0])) (.ref z1) (.tuple _) := Rp.mk upd_same (RpAll.on (.cons sok (.cons r_z0 .nil)) (KT.upd_new h_z1))
    replace hB := hB.keep fun a o e _ => s_z1 a o e
    replace r_y := r_y.on (KT.same s_z1)
    replace hys := (KT.same s_z1).sqt hys
    replace r_fv := r_fv.on (KT.same s_z1)
    replace r_v := r_v.on (KT.same s_z1)
    replace r_z0 := r_z0.on (KT.same s_z1)
    replace S := S.sm s_z1
    clear h_z1
    clear s_z1
    generalize (upd Hq13 z1 (.tup [.str "val z", .ref z0])) = Hq14 at hB r_y hys r_fv r_v r_z0 r_z1 S ⊢
    refine ⟨(show 1 ≤ sizeLine by decide), fun z2 h_z2 => ?_⟩
    have s_z2 : Sm Hq14 (upd Hq14 z2 (.tup [.ref z1])) := Sm.new h_z2
    have r_z2 : Rp K (upd Hq14 z2 (.tup [.ref z1])) (.ref z2) (.tuple _) := Rp.mk upd_same (RpAll.on (.cons r_z1 .nil) (KT.upd_new h_z2))
    replace hB := hB.keep fun a o e _ => s_z2 a o e
    replace r_y := r_y.on (KT.same s_z2)
    replace hys := (KT.same s_z2).sqt hys
    replace r_fv := r_fv.on (KT.same s_z2)
    replace r_v := r_v.on (KT.same s_z2)
    replace r_z0 := r_z0.on (KT.same s_z2)
    replace r_z1 := r_z1.on (KT.same s_z2)
    replace S := S.sm s_z2
    clear h_z2
    clear s_z2
    generalize (upd Hq14 z2 (.tup [.ref z1])) = Hq15 at hB r_y hys r_fv r_v r_z0 r_z1 r_z2 S ⊢
    refine catA_rp (K := K) r_y r_z2 (by rw [fds_len]; exact small_le (by simp; omega)) fun q4 Hf4 sf4 r_q4 => ?_
    replace hB := hB.keep fun a o e _ => sf4 a o e
    replace r_y := r_y.on (KT.same sf4)
    replace hys := (KT.same sf4).sqt hys
    replace r_fv := r_fv.on (KT.same sf4)
    replace r_v := r_v.on (KT.same sf4)
    replace r_z0 := r_z0.on (KT.same sf4)
    replace r_z1 := r_z1.on (KT.same sf4)
    replace r_z2 := r_z2.on (KT.same sf4)
    replace S := S.sm sf4
    exact k _ (Rw.fls rs ++ [(("val z" : Str), Fv.lf (.int 0))]) _ S hB (by rw [fds_app]; simpa [Fv.ds, Fv.d, Vl.d] using r_q4) (foks_app hfo (foks_one (by simp only [Fv.ok, Vl.oka, Vl.tag]; exact ⟨trivial, i7, i8⟩))) (by rw [List.length_append]; simp; omega) fun d _ => bad_more
theorem ok_chg (T : Txt K mg A) : ∀ n : Nat, FnOk P w K mg base CX0 (n + 5) A.f__law_changed A.d__law_changed ["box", "fields"] (spChg K n)
  | 0 => chg_step T 0 (T.F__law_changed.ok (k := 3) sc__law_changed (fun _ _ _ _ h => h.elim) (fun _ _ _ _ _ _ _ _ _ h => h.elim))
  | n + 1 => chg_step T (n + 1) (ok_chg T n)
end
end K89

set_option Elab.async false
set_option maxRecDepth 100000
set_option linter.all false
set_option maxHeartbeats 40000000
set_option pp.maxSteps 400
namespace K89
open PySem L2 GD AG LV LamX
section
variable {P : Program} {w : World} {K : PySem.W.Frag} {mg : Str → Option Value} {base : Heap} {A : Adr}
theorem basis_eq : BASIS_D = .tuple [.tuple (Ent.ds basisE), .tuple [.int 0, .int 0, .int 0, .int 1, .int 0, .int 1, .int 1, .int 0]] := by rfl
theorem basis_at (T : Txt K mg A) (H : Hp) : ∃ p q, SqT K H A.c_BASIS [p, q] ∧ Rp K H p (.tuple (Ent.ds basisE)) := by
  have h := T.y_BASIS H
  rw [basis_eq] at h
  obtain ⟨a, ys, e, s, r0⟩ := h.tup_inv
  cases e
  obtain ⟨v1, w1, rfl, h1, r1⟩ := r0.cons_inv
  obtain ⟨v2, w2, rfl, h2, r2⟩ := r1.cons_inv
  have er := RpAll.nil_inv r2
  rw [er] at s
  exact ⟨v1, v2, s, h1⟩
theorem BoxAt.ext {H H' : Hp} {b c : Addr} (h : BoxAt H b c) (e : ExtN H H') : BoxAt H' b c := by
  obtain ⟨ns, n, m, k0, h1, h2, h3⟩ := h
  exact ⟨ns, n, m, k0, e _ _ h1 (fun _ z => by cases z), e _ _ h2 (fun _ z => by cases z), h3⟩
theorem tabs_bs {T : List (Addr × Str)} {H H' : Hp} {b c : Addr} (t : Tabs T H) (hB : BoxAt H b c) (s : Bs b c H H') : Tabs T H' := by
  obtain ⟨ns, n, m, k0, hb, hc, _⟩ := hB
  have mv : ∀ (a : Addr) (o : HO), H a = some o → (∀ xs, o ≠ .lst xs) → H' a = some o := fun a o e q => s _ _ (fun z => by rw [z, hb] at e; exact q _ (Option.some.inj e).symm) (fun z => by rw [z, hc] at e; exact q _ (Option.some.inj e).symm) e
  intro p hp
  obtain ⟨ps, h1, h2, h3⟩ := t p hp
  refine ⟨ps, mv _ _ h1 (fun xs z => by cases z), h2, fun pos cv hcv => ?_⟩
  obtain ⟨d, e1, e2⟩ := h3 pos cv hcv
  exact ⟨d, e1, mv _ _ e2 fun xs z => by unfold CodeO at z; cases z⟩
def spLaw (K : PySem.W.Frag) (PT : Addr) : Sp := fun vs H Q _ => ∃ (a : Addr) (ns : List Int), vs = [.ref a] ∧ SqL K H a (ns.map V.int) ∧ ns.length ≤ 63 ∧ Tabs (TT PT) H ∧ ∀ H', Q (.bl true) H'
theorem ok_law (T : Txt K mg A) {cc PT : Addr} (TB : TabB base mg cc PT) (hcd : A.d_ordered_fields.code = .ref cc) : FnOk P w K mg base CX0 199 A.f_law A.d_law ["script"] (spLaw K PT) := by
  have G__law_draw : FnOk P w K mg base CX0 2 A.f__law_draw A.d__law_draw _ _ := ok__law_draw T
  have G__law_box : FnOk P w K mg base CX0 1 A.f__law_box A.d__law_box _ _ := ok__law_box T
  have G__law_level : FnOk P w K mg base CX0 9 A.f__law_level A.d__law_level _ _ := ok_lev T 2
  have G__law_changed : FnOk P w K mg base CX0 7 A.f__law_changed A.d__law_changed _ _ := ok_chg T 2
  have G_agrees_with_level : FnOk P w K mg base CX0 198 A.f_agrees_with_level A.d_agrees_with_level _ _ := ok_lvl T TB hcd 2
  refine T.F_law.ok (k := 198) sc_law (fun vs H Q E h => ?_) (fun cdv Ar outer s H vs Q E hr h => ?_)
  · obtain ⟨a, ns, rfl, _⟩ := h
    rfl
  · obtain ⟨a, ns, rfl, hS, hlen, hT, k⟩ := h
    refine ⟨_, (pss_cons (ps_set (i := 1) sc_law.nd rfl (Or.inl rfl) (pe_call G__law_box (hr.mono (by first | decide | omega)) rfl T.g__law_box T.F__law_box.kp T.b__law_box .nil pass0 (pa_cons (pv 0) (pa_cons pe_int pa_nil)))) (pss_cons (ps_asg (pe_call G__law_level (hr.mono (by first | decide | omega)) rfl T.g__law_level T.F__law_level.kp T.b__law_level .nil pass0 (pa_cons (pv 1) (pa_cons pe_int pa_nil))) (pg_tup rfl (pgs_cons (pg_name (i := 2) sc_law.nd rfl (Or.inl rfl)) (pgs_cons (pg_name (i := 3) sc_law.nd rfl (Or.inl rfl)) pgs_nil)))) (pss_cons (ps_set (i := 4) sc_law.nd rfl (Or.inl rfl) (pe_op op_catA (pe_ix (ixt (K := K) rfl) (pe_glob (v := .ref A.c_BASIS) rfl T.g_BASIS rfl) pe_int (fun _ _ => rfl)) (pv 2))) (pss_cons (ps_set (i := 5) sc_law.nd rfl (Or.inl rfl) (pe_op op_add pe_int (pe_call G__law_draw (hr.mono (by first | decide | omega)) rfl T.g__law_draw T.F__law_draw.kp T.b__law_draw .nil pass0 (pa_cons (pv 1) (pa_cons pe_int pa_nil))))) (pss_cons (ps_if (pt_cmpR op_notBl (pe_call G_agrees_with_level (hr.mono (by first | decide | omega)) rfl T.g_agrees_with_level T.F_agrees_with_level.kp T.b_agrees_with_level .nil pass0 (pa_cons (pv 4) (pa_cons (pv 2) (pa_cons (pe_tup (pa_cons pe_str (pa_cons (pv 3) pa_nil))) (pa_cons (pe_tup pa_nil) (pa_cons (pv 5) pa_nil)))))) pe_bl (nomark _)) (pss_one (ps_ret pe_bl)) pss_nil) (pss_cons (ps_if (pt_cmpR op_notBl (pe_call G_agrees_with_level (hr.mono (by first | decide | omega)) rfl T.g_agrees_with_level T.F_agrees_with_level.kp T.b_agrees_with_level .nil pass0 (pa_cons (pv 4) (pa_cons (pv 2) (pa_cons (pe_tup (pa_cons pe_str (pa_cons (pe_tup pa_nil) pa_nil))) (pa_cons (pe_tup pa_nil) (pa_cons (pv 5) pa_nil)))))) pe_bl (nomark _)) (pss_one (ps_ret pe_bl)) pss_nil) (pss_cons (ps_if (pt_cmpR op_eq (pe_callB call_len_seq (by rfl) T.n_len PySem.boot_len (pa_cons (pv 3) pa_nil)) pe_int (nomark _)) (pss_one (ps_ret (pe_cmpR op_isBl (pe_call G_agrees_with_level (hr.mono (by first | decide | omega)) rfl T.g_agrees_with_level T.F_agrees_with_level.kp T.b_agrees_with_level .nil pass0 (pa_cons (pv 4) (pa_cons (pv 2) (pa_cons (pe_tup (pa_cons pe_str (pa_cons (pe_tup (pa_cons (pe_tup (pa_cons pe_str (pa_cons (pe_tup (pa_cons pe_str (pa_cons pe_int pa_nil))) pa_nil))) pa_nil)) pa_nil))) (pa_cons (pe_tup pa_nil) (pa_cons (pv 5) pa_nil)))))) pe_bl (nomark _)))) pss_nil) (pss_one (ps_ret (pe_cmpR op_isBl (pe_call G_agrees_with_level (hr.mono (by first | decide | omega)) rfl T.g_agrees_with_level T.F_agrees_with_level.kp T.b_agrees_with_level .nil pass0 (pa_cons (pv 4) (pa_cons (pv 2) (pa_cons (pe_tup (pa_cons pe_str (pa_cons (pe_call G__law_changed (hr.mono (by first | decide | omega)) rfl T.g__law_changed T.F__law_changed.kp T.b__law_changed .nil pass0 (pa_cons (pv 1) (pa_cons (pv 3) pa_nil))) pa_nil))) (pa_cons (pe_tup pa_nil) (pa_cons (pv 5) pa_nil)))))) pe_bl (nomark _))))))))))), ?_⟩
    refine ⟨_, rfl, a, ns, 0, rfl, hS, hlen, fun b c H1 hb0 hc0 sm1 hB => ?_⟩
    replace hT := hT.ext sm1
    refine ⟨_, rfl, b, c, 2, rfl, rfl, hB, fun res rs H2 s2 hB2 r_res hwf hsrt hln hdeps => ?_⟩
    replace hT := tabs_bs hT hB s2
    replace hB := hB2
    clear hB2 s2 hS sm1 hb0 hc0
    obtain ⟨t, ts, rfl, st, rt⟩ := r_res.tup_inv
    obtain ⟨x, t1, rfl, r_e, rt⟩ := rt.cons_inv
    obtain ⟨y, t2, rfl, r_f, rt⟩ := rt.cons_inv
    have et := rt.nil_inv
    subst et
    refine ⟨t, _, rfl, st, rfl, x, [y], rfl, y, [], rfl, rfl, ?_⟩
    clear r_res rt st
    obtain ⟨p, q, hBA, r_b⟩ := basis_at T H2
    have hrl : rs.length ≤ 100 := hln
    refine ⟨A.c_BASIS, _, _, _, rfl, rfl, hBA, at0, _, rfl, catA_rp (K := K) r_b r_e (by rw [rds_len]; exact small_le (by have : (Ent.ds basisE).length = 39 := rfl; omega)) fun nm H3 s3 r_n => ?_⟩
    have r_n' : Rp K H3 nm (.tuple (Ent.ds (namesE rs))) := by
      unfold namesE
      rw [eds_map, List.map_append, ← eds_map, ← eds_map, Rw.es_d]
      exact r_n
    clear r_n r_b hBA
    replace hB := hB.keep fun a o e _ => s3 a o e
    replace r_e := r_e.on (KT.same s3)
    replace r_f := r_f.on (KT.same s3)
    replace hT := Tabs.ext hT s3
    refine ⟨_, rfl, b, c, 58, rfl, by decide, by decide, hB, fun dd H4 d0 d1 hx4 hB4 => ⟨_, _, rfl, rfl, ?_⟩⟩
    replace r_e := r_e.on (hB.kt hx4)
    replace r_f := r_f.on (hB.kt hx4)
    replace hT := tabs_bs hT hB (Bs.of hx4)
    replace r_n' := r_n'.on (hB.kt hx4)
    replace hB := hB4
    clear s3
    have hdn : 3 ≤ (3 + dd).toNat := by omega
    have hfok := fls_ok rs hwf
    have hfl : (Rw.fls rs).length ≤ 100 := Nat.le_trans (fls_le rs) hln
    obtain ⟨ea, eas, rfl, _⟩ := r_e.tup_inv
    obtain ⟨fa, fas, rfl, hfa, hfr⟩ := r_f.tup_inv
    have hfal : fas.length = (Rw.fls rs).length := by rw [hfr.length, fds_len]
    clear hfr
    obtain ⟨na, nas, rfl, _⟩ := r_n'.tup_inv
    -- what was drawn agrees
    refine ⟨_, rfl, _, rfl, _, rfl, (show 2 ≤ sizeLine by decide), fun u1 h_u1 => ?_⟩
    have s_u1 : Sm H4 (upd H4 u1 (.tup [.str "record", .ref fa])) := Sm.new h_u1
    have r_u1 : Rp K (upd H4 u1 (.tup [.str "record", .ref fa])) (.ref u1) (.tuple _) := Rp.mk upd_same (RpAll.on (.cons sok (.cons r_f .nil)) (KT.upd_new h_u1))
    replace hB := hB.keep fun a o e _ => s_u1 a o e
    replace r_e := r_e.on (KT.same s_u1)
    replace r_f := r_f.on (KT.same s_u1)
    replace hT := Tabs.ext hT s_u1
    replace r_n' := r_n'.on (KT.same s_u1)
    replace hfa := (KT.same s_u1).sqt hfa
    clear h_u1
    clear s_u1
    generalize (upd H4 u1 (.tup [.str "record", .ref fa])) = Hq1 at hB r_e r_f hT r_n' hfa r_u1 ⊢
    refine ⟨Nat.zero_le _, fun e1 h_e1 => ?_⟩
    have s_e1 : Sm Hq1 (upd Hq1 e1 (.tup [])) := Sm.new h_e1
    have r_e1 : Rp K (upd Hq1 e1 (.tup [])) (.ref e1) (.tuple _) := Rp.mk upd_same (RpAll.on (.nil) (KT.upd_new h_e1))
    replace hB := hB.keep fun a o e _ => s_e1 a o e
    replace r_e := r_e.on (KT.same s_e1)
    replace r_f := r_f.on (KT.same s_e1)
    replace hT := Tabs.ext hT s_e1
    replace r_n' := r_n'.on (KT.same s_e1)
    replace hfa := (KT.same s_e1).sqt hfa
    replace r_u1 := r_u1.on (KT.same s_e1)
    clear h_e1
    clear s_e1
    generalize (upd Hq1 e1 (.tup [])) = Hq2 at hB r_e r_f hT r_n' hfa r_u1 r_e1 ⊢
    refine ⟨_, rfl, .ref na, .ref ea, .ref u1, .ref e1, 3 + dd, rs, rs, .rcd (Rw.fls rs), rfl, by omega, by omega, r_n', r_e1, r_e, hwf, hsrt, hln, by omega, (by simpa [Fv.d] using r_u1), (by simp only [Fv.ok]; exact ⟨by omega, hfok⟩), hT, fun H6 e6 hT6 => ?_⟩
    rw [show lvA (3 + dd).toNat rs (.rcd (Rw.fls rs)) = true from goA_ok hdn rs hwf]
    clear r_u1 r_e1
    replace hB := hB.ext e6
    replace r_e := r_e.on e6.kt
    replace r_f := r_f.on e6.kt
    replace hT := hT6
    replace r_n' := r_n'.on e6.kt
    replace hfa := e6.kt.sqt hfa
    refine ⟨true, true, rfl, rfl, _, rfl, iteN (by decide) ?_⟩
    -- a tuple does not
    refine ⟨_, rfl, _, rfl, Nat.zero_le _, fun e2 h_e2 => ?_⟩
    have s_e2 : Sm H6 (upd H6 e2 (.tup [])) := Sm.new h_e2
    have r_e2 : Rp K (upd H6 e2 (.tup [])) (.ref e2) (.tuple _) := Rp.mk upd_same (RpAll.on (.nil) (KT.upd_new h_e2))
    replace hB := hB.keep fun a o e _ => s_e2 a o e
    replace r_e := r_e.on (KT.same s_e2)
    replace r_f := r_f.on (KT.same s_e2)
    replace hT := Tabs.ext hT s_e2
    replace r_n' := r_n'.on (KT.same s_e2)
    replace hfa := (KT.same s_e2).sqt hfa
    clear h_e2
    clear s_e2
    generalize (upd H6 e2 (.tup [])) = Hq3 at hB r_e r_f hT r_n' hfa r_e2 ⊢
    refine ⟨(show 2 ≤ sizeLine by decide), fun u2 h_u2 => ?_⟩
    have s_u2 : Sm Hq3 (upd Hq3 u2 (.tup [.str "tuple", .ref e2])) := Sm.new h_u2
    have r_u2 : Rp K (upd Hq3 u2 (.tup [.str "tuple", .ref e2])) (.ref u2) (.tuple _) := Rp.mk upd_same (RpAll.on (.cons sok (.cons r_e2 .nil)) (KT.upd_new h_u2))
    replace hB := hB.keep fun a o e _ => s_u2 a o e
    replace r_e := r_e.on (KT.same s_u2)
    replace r_f := r_f.on (KT.same s_u2)
    replace hT := Tabs.ext hT s_u2
    replace r_n' := r_n'.on (KT.same s_u2)
    replace hfa := (KT.same s_u2).sqt hfa
    replace r_e2 := r_e2.on (KT.same s_u2)
    clear h_u2
    clear s_u2
    generalize (upd Hq3 u2 (.tup [.str "tuple", .ref e2])) = Hq4 at hB r_e r_f hT r_n' hfa r_e2 r_u2 ⊢
    refine ⟨Nat.zero_le _, fun e3 h_e3 => ?_⟩
    have s_e3 : Sm Hq4 (upd Hq4 e3 (.tup [])) := Sm.new h_e3
    have r_e3 : Rp K (upd Hq4 e3 (.tup [])) (.ref e3) (.tuple _) := Rp.mk upd_same (RpAll.on (.nil) (KT.upd_new h_e3))
    replace hB := hB.keep fun a o e _ => s_e3 a o e
    replace r_e := r_e.on (KT.same s_e3)
    replace r_f := r_f.on (KT.same s_e3)
    replace hT := Tabs.ext hT s_e3
    replace r_n' := r_n'.on (KT.same s_e3)
    replace hfa := (KT.same s_e3).sqt hfa
    replace r_e2 := r_e2.on (KT.same s_e3)
    replace r_u2 := r_u2.on (KT.same s_e3)
    clear h_e3
    clear s_e3
    generalize (upd Hq4 e3 (.tup [])) = Hq5 at hB r_e r_f hT r_n' hfa r_e2 r_u2 r_e3 ⊢
    refine ⟨_, rfl, .ref na, .ref ea, .ref u2, .ref e3, 3 + dd, rs, rs, .lf (.tup []), rfl, by omega, by omega, r_n', r_e3, r_e, hwf, hsrt, hln, by omega, (by simpa [Fv.d, Vl.d, Vl.ds] using r_u2), (by simp only [Fv.ok, Vl.oka, Vl.okas, Vl.tag]; exact ⟨trivial, t7, t8⟩), hT, fun H7 e7 hT7 => ?_⟩
    rw [show lvA (3 + dd).toNat rs (.lf (.tup [])) = false from rfl]
    clear r_u2 r_e2 r_e3
    replace hB := hB.ext e7
    replace r_e := r_e.on e7.kt
    replace r_f := r_f.on e7.kt
    replace hT := hT7
    replace r_n' := r_n'.on e7.kt
    replace hfa := e7.kt.sqt hfa
    refine ⟨false, false, rfl, rfl, _, rfl, iteN (by decide) ?_⟩
    refine ⟨_, rfl, fa, _, rfl, .inr hfa, rfl, _, rfl, ?_⟩
    rw [dec_i]
    by_cases hz : ((fas.length : Nat) : Int) = 0
    · rw [decide_eq_true hz]
      refine iteT (B := _) ?_
      have hz' : (Rw.fls rs).length = 0 := by omega
      refine ⟨_, rfl, _, rfl, (show 2 ≤ sizeLine by decide), fun z0 h_z0 => ?_⟩
      have s_z0 : Sm H7 (upd H7 z0 (.tup [.str "int", .int 0])) := Sm.new h_z0
      have r_z0 : Rp K (upd H7 z0 (.tup [.str "int", .int 0])) (.ref z0) (.tuple _) := Rp.mk upd_same (RpAll.on (.cons sok (.cons (.int _) .nil)) (KT.upd_new h_z0))
      replace hB := hB.keep fun a o e _ => s_z0 a o e
      replace r_e := r_e.on (KT.same s_z0)
      replace r_f := r_f.on (KT.same s_z0)
      replace hT := Tabs.ext hT s_z0
      replace r_n' := r_n'.on (KT.same s_z0)
      replace hfa := (KT.same s_z0).sqt hfa
      clear h_z0
      clear s_z0
      generalize (upd H7 z0 (.tup [.str "int", .int 0])) = Hq6 at hB r_e r_f hT r_n' hfa r_z0 ⊢
      refine ⟨(show 2 ≤ sizeLine by decide), fun z1 h_z1 => ?_⟩
      have s_z1 : Sm Hq6 (upd Hq6 z1 (.tup [.str "val x", .ref z0])) := Sm.new h_z1
      have r_z1 : Rp K (upd Hq6 z1 (.tup [.str "val x", .ref z0])) (.ref z1) (.tuple _) := Rp.mk upd_same (RpAll.on (.cons sok (.cons r_z0 .nil)) (KT.upd_new h_z1))
      replace hB := hB.keep fun a o e _ => s_z1 a o e
      replace r_e := r_e.on (KT.same s_z1)
      replace r_f := r_f.on (KT.same s_z1)
      replace hT := Tabs.ext hT s_z1
      replace r_n' := r_n'.on (KT.same s_z1)
      replace hfa := (KT.same s_z1).sqt hfa
      replace r_z0 := r_z0.on (KT.same s_z1)
      clear h_z1
      clear s_z1
      generalize (upd Hq6 z1 (.tup [.str "val x", .ref z0])) = Hq7 at hB r_e r_f hT r_n' hfa r_z0 r_z1 ⊢
      refine ⟨(show 1 ≤ sizeLine by decide), fun z2 h_z2 => ?_⟩
      have s_z2 : Sm Hq7 (upd Hq7 z2 (.tup [.ref z1])) := Sm.new h_z2
      have r_z2 : Rp K (upd Hq7 z2 (.tup [.ref z1])) (.ref z2) (.tuple _) := Rp.mk upd_same (RpAll.on (.cons r_z1 .nil) (KT.upd_new h_z2))
      replace hB := hB.keep fun a o e _ => s_z2 a o e
      replace r_e := r_e.on (KT.same s_z2)
      replace r_f := r_f.on (KT.same s_z2)
      replace hT := Tabs.ext hT s_z2
      replace r_n' := r_n'.on (KT.same s_z2)
      replace hfa := (KT.same s_z2).sqt hfa
      replace r_z0 := r_z0.on (KT.same s_z2)
      replace r_z1 := r_z1.on (KT.same s_z2)
      clear h_z2
      clear s_z2
      generalize (upd Hq7 z2 (.tup [.ref z1])) = Hq8 at hB r_e r_f hT r_n' hfa r_z0 r_z1 r_z2 ⊢
      refine ⟨(show 2 ≤ sizeLine by decide), fun u3 h_u3 => ?_⟩
      have s_u3 : Sm Hq8 (upd Hq8 u3 (.tup [.str "record", .ref z2])) := Sm.new h_u3
      have r_u3 : Rp K (upd Hq8 u3 (.tup [.str "record", .ref z2])) (.ref u3) (.tuple _) := Rp.mk upd_same (RpAll.on (.cons sok (.cons r_z2 .nil)) (KT.upd_new h_u3))
      replace hB := hB.keep fun a o e _ => s_u3 a o e
      replace r_e := r_e.on (KT.same s_u3)
      replace r_f := r_f.on (KT.same s_u3)
      replace hT := Tabs.ext hT s_u3
      replace r_n' := r_n'.on (KT.same s_u3)
      replace hfa := (KT.same s_u3).sqt hfa
      replace r_z0 := r_z0.on (KT.same s_u3)
      replace r_z1 := r_z1.on (KT.same s_u3)
      replace r_z2 := r_z2.on (KT.same s_u3)
      clear h_u3
      clear s_u3
      generalize (upd Hq8 u3 (.tup [.str "record", .ref z2])) = Hq9 at hB r_e r_f hT r_n' hfa r_z0 r_z1 r_z2 r_u3 ⊢
      refine ⟨Nat.zero_le _, fun e4 h_e4 => ?_⟩
      have s_e4 : Sm Hq9 (upd Hq9 e4 (.tup [])) := Sm.new h_e4
      have r_e4 : Rp K (upd Hq9 e4 (.tup [])) (.ref e4) (.tuple _) := Rp.mk upd_same (RpAll.on (.nil) (KT.upd_new h_e4))
      replace hB := hB.keep fun a o e _ => s_e4 a o e
      replace r_e := r_e.on (KT.same s_e4)
      replace r_f := r_f.on (KT.same s_e4)
      replace hT := Tabs.ext hT s_e4
      replace r_n' := r_n'.on (KT.same s_e4)
      replace hfa := (KT.same s_e4).sqt hfa
      replace r_z0 := r_z0.on (KT.same s_e4)
      replace r_z1 := r_z1.on (KT.same s_e4)
      replace r_z2 := r_z2.on (KT.same s_e4)
      replace r_u3 := r_u3.on (KT.same s_e4)
      clear h_e4
      clear s_e4
      generalize (upd Hq9 e4 (.tup [])) = Hq10 at hB r_e r_f hT r_n' hfa r_z0 r_z1 r_z2 r_u3 r_e4 ⊢
      refine ⟨_, rfl, .ref na, .ref ea, .ref u3, .ref e4, 3 + dd, rs, rs, .rcd [(("val x" : Str), Fv.lf (.int 0))], rfl, by omega, by omega, r_n', r_e4, r_e, hwf, hsrt, hln, by omega, (by simpa [Fv.d, Fv.ds, Vl.d] using r_u3), (by simp only [Fv.ok, Fv.oks, Vl.oka, Vl.tag]; exact ⟨by decide, ⟨trivial, i7, i8⟩, trivial⟩), hT, fun H8 e8 hT8 => ?_⟩
      rw [show lvA (3 + dd).toNat rs (.rcd [(("val x" : Str), Fv.lf (.int 0))]) = false from go_more _ (by rw [← fls_len]; simp; omega)]
      exact ⟨false, false, rfl, rfl, k _⟩
    · rw [decide_eq_false hz]
      refine iteF (A := _) ?_
      refine ⟨_, rfl, _, rfl, _, rfl, _, rfl, b, c, .ref fa, rs, rfl, hB, hwf, hsrt, hln, hdeps, by omega, r_f, fun res fs2 H8 s8 hB8 r_res ok2 len2 bad2 => ?_⟩
      replace r_e := r_e.on (hB.kts s8)
      replace r_f := r_f.on (hB.kts s8)
      replace hT := tabs_bs hT hB s8
      replace r_n' := r_n'.on (hB.kts s8)
      replace hfa := (hB.kts s8).sqt hfa
      replace hB := hB8
      refine ⟨(show 2 ≤ sizeLine by decide), fun u3 h_u3 => ?_⟩
      have s_u3 : Sm H8 (upd H8 u3 (.tup [.str "record", res])) := Sm.new h_u3
      have r_u3 : Rp K (upd H8 u3 (.tup [.str "record", res])) (.ref u3) (.tuple _) := Rp.mk upd_same (RpAll.on (.cons sok (.cons r_res .nil)) (KT.upd_new h_u3))
      replace hB := hB.keep fun a o e _ => s_u3 a o e
      replace r_e := r_e.on (KT.same s_u3)
      replace r_f := r_f.on (KT.same s_u3)
      replace hT := Tabs.ext hT s_u3
      replace r_n' := r_n'.on (KT.same s_u3)
      replace hfa := (KT.same s_u3).sqt hfa
      replace r_res := r_res.on (KT.same s_u3)
      clear h_u3
      clear s_u3
      generalize (upd H8 u3 (.tup [.str "record", res])) = Hq11 at hB r_e r_f hT r_n' hfa r_res r_u3 ⊢
      refine ⟨Nat.zero_le _, fun e4 h_e4 => ?_⟩
      have s_e4 : Sm Hq11 (upd Hq11 e4 (.tup [])) := Sm.new h_e4
      have r_e4 : Rp K (upd Hq11 e4 (.tup [])) (.ref e4) (.tuple _) := Rp.mk upd_same (RpAll.on (.nil) (KT.upd_new h_e4))
      replace hB := hB.keep fun a o e _ => s_e4 a o e
      replace r_e := r_e.on (KT.same s_e4)
      replace r_f := r_f.on (KT.same s_e4)
      replace hT := Tabs.ext hT s_e4
      replace r_n' := r_n'.on (KT.same s_e4)
      replace hfa := (KT.same s_e4).sqt hfa
      replace r_res := r_res.on (KT.same s_e4)
      replace r_u3 := r_u3.on (KT.same s_e4)
      clear h_e4
      clear s_e4
      generalize (upd Hq11 e4 (.tup [])) = Hq12 at hB r_e r_f hT r_n' hfa r_res r_u3 r_e4 ⊢
      refine ⟨_, rfl, .ref na, .ref ea, .ref u3, .ref e4, 3 + dd, rs, rs, .rcd fs2, rfl, by omega, by omega, r_n', r_e4, r_e, hwf, hsrt, hln, by omega, (by simpa [Fv.d] using r_u3), (by simp only [Fv.ok]; exact ⟨len2, ok2⟩), hT, fun H9 e9 hT9 => ?_⟩
      rw [show lvA (3 + dd).toNat rs (.rcd fs2) = false from bad2 _ hdn]
      exact ⟨false, false, rfl, rfl, k _⟩
end
end K89

set_option Elab.async false
set_option maxRecDepth 100000
set_option linter.all false
set_option maxHeartbeats 4000000
set_option pp.maxSteps 400
namespace K89
open PySem L2 GD AG LamX
theorem law_sp {K : PySem.W.Frag} {PT : Addr} {H : Hp} {a : Addr} {ns : List Int} (hl : ns.length ≤ 63) (hT : H PT = some (.tbl #[])) (hS : SqL K H a (ns.map V.int)) : spLaw K PT [.ref a] H (fun v _ => v = .bl true) fun _ _ _ => False :=
  ⟨a, ns, rfl, hS, hl, fun p hp => by rw [List.mem_singleton.mp hp]; exact TabS.nil hT, fun _ => rfl⟩
theorem all_mk {l : PySem.W.OpenLaw} {w : World} {K : PySem.W.Frag} {h : Heap} {mg : Str → Option Value} {fa PT : Addr} (X : K.In h) (G : h.Ns mainGlobals mg) (hfa : mg "law" = some (.ref fa)) (hTP : h.get? PT = some (PySem.W.tabObj #[]))
    {f0 f1 f2 f3 f4 f5 f6 f7 f8 f9 f10 f11 f12 f13 f14 f15 f16 f17 f18 f19 C_INT C_UNIT C_EXN C_BASIS cc : Addr} {od0 an0 od1 an1 od2 an2 od3 an3 od4 an4 od5 an5 od6 an6 od7 an7 od8 an8 od9 an9 od10 an10 od11 an11 od12 an12 od13 an13 od14 an14 od15 an15 od16 an16 od17 an17 od18 an18 od19 an19 : Option Addr} {sl0 sl1 sl2 sl3 sl4 sl5 sl6 sl7 sl8 sl9 sl10 sl11 sl12 sl13 sl14 sl15 sl16 sl17 sl18 sl19 : Array (Option Value)} {oc0 kV0 dc0 pm0 cd0 ct0 oc1 kV1 dc1 pm1 cd1 ct1 oc2 kV2 dc2 pm2 cd2 ct2 oc3 kV3 dc3 pm3 cd3 ct3 oc4 kV4 dc4 pm4 cd4 ct4 oc5 kV5 dc5 pm5 cd5 ct5 oc6 kV6 dc6 pm6 cd6 ct6 oc7 kV7 dc7 pm7 cd7 ct7 oc8 kV8 dc8 pm8 cd8 ct8 oc9 kV9 dc9 pm9 ct9 oc10 kV10 dc10 pm10 cd10 ct10 oc11 kV11 dc11 pm11 cd11 ct11 oc12 kV12 dc12 pm12 cd12 ct12 oc13 kV13 dc13 pm13 cd13 ct13 oc14 kV14 dc14 pm14 cd14 ct14 oc15 kV15 dc15 pm15 cd15 ct15 oc16 kV16 dc16 pm16 cd16 ct16 oc17 kV17 dc17 pm17 cd17 ct17 oc18 kV18 dc18 pm18 cd18 ct18 oc19 kV19 dc19 pm19 cd19 ct19 : Value}
    (a0 : PySem.W.nsIn K mainGlobals "direct_parts" = some (some (.ref f0)))
    (l0 : K.lookup f0 = some ⟨oc0, od0, .func (PySem.W.fnOf "direct_parts" "direct_parts" (defArgs s_direct_parts) (defBody s_direct_parts) (defScope s_direct_parts) .none kV0 dc0 pm0 an0 cd0 ct0), sl0⟩) (c0 : PySem.W.codeIn K cd0 "direct_parts" = true) (k0 : PySem.W.keepIn K (.ref f0) = true)
    (a1 : PySem.W.nsIn K mainGlobals "with_parts" = some (some (.ref f1)))
    (l1 : K.lookup f1 = some ⟨oc1, od1, .func (PySem.W.fnOf "with_parts" "with_parts" (defArgs s_with_parts) (defBody s_with_parts) (defScope s_with_parts) .none kV1 dc1 pm1 an1 cd1 ct1), sl1⟩) (c1 : PySem.W.codeIn K cd1 "with_parts" = true) (k1 : PySem.W.keepIn K (.ref f1) = true)
    (a2 : PySem.W.nsIn K mainGlobals "replace_variables" = some (some (.ref f2)))
    (l2 : K.lookup f2 = some ⟨oc2, od2, .func (PySem.W.fnOf "replace_variables" "replace_variables" (defArgs s_replace_variables) (defBody s_replace_variables) (defScope s_replace_variables) .none kV2 dc2 pm2 an2 cd2 ct2), sl2⟩) (c2 : PySem.W.codeIn K cd2 "replace_variables" = true) (k2 : PySem.W.keepIn K (.ref f2) = true)
    (a3 : PySem.W.nsIn K mainGlobals "constructor_entries" = some (some (.ref f3)))
    (l3 : K.lookup f3 = some ⟨oc3, od3, .func (PySem.W.fnOf "constructor_entries" "constructor_entries" (defArgs s_constructor_entries) (defBody s_constructor_entries) (defScope s_constructor_entries) .none kV3 dc3 pm3 an3 cd3 ct3), sl3⟩) (c3 : PySem.W.codeIn K cd3 "constructor_entries" = true) (k3 : PySem.W.keepIn K (.ref f3) = true)
    (a4 : PySem.W.nsIn K mainGlobals "constructors_of" = some (some (.ref f4)))
    (l4 : K.lookup f4 = some ⟨oc4, od4, .func (PySem.W.fnOf "constructors_of" "constructors_of" (defArgs s_constructors_of) (defBody s_constructors_of) (defScope s_constructors_of) .none kV4 dc4 pm4 an4 cd4 ct4), sl4⟩) (c4 : PySem.W.codeIn K cd4 "constructors_of" = true) (k4 : PySem.W.keepIn K (.ref f4) = true)
    (a5 : PySem.W.nsIn K mainGlobals "agrees_with_entry" = some (some (.ref f5)))
    (l5 : K.lookup f5 = some ⟨oc5, od5, .func (PySem.W.fnOf "agrees_with_entry" "agrees_with_entry" (defArgs s_agrees_with_entry) (defBody s_agrees_with_entry) (defScope s_agrees_with_entry) .none kV5 dc5 pm5 an5 cd5 ct5), sl5⟩) (c5 : PySem.W.codeIn K cd5 "agrees_with_entry" = true) (k5 : PySem.W.keepIn K (.ref f5) = true)
    (a6 : PySem.W.nsIn K mainGlobals "agrees_with_constructor" = some (some (.ref f6)))
    (l6 : K.lookup f6 = some ⟨oc6, od6, .func (PySem.W.fnOf "agrees_with_constructor" "agrees_with_constructor" (defArgs s_agrees_with_constructor) (defBody s_agrees_with_constructor) (defScope s_agrees_with_constructor) .none kV6 dc6 pm6 an6 cd6 ct6), sl6⟩) (c6 : PySem.W.codeIn K cd6 "agrees_with_constructor" = true) (k6 : PySem.W.keepIn K (.ref f6) = true)
    (a7 : PySem.W.nsIn K mainGlobals "agrees" = some (some (.ref f7)))
    (l7 : K.lookup f7 = some ⟨oc7, od7, .func (PySem.W.fnOf "agrees" "agrees" (defArgs s_agrees) (defBody s_agrees) (defScope s_agrees) .none kV7 dc7 pm7 an7 cd7 ct7), sl7⟩) (c7 : PySem.W.codeIn K cd7 "agrees" = true) (k7 : PySem.W.keepIn K (.ref f7) = true)
    (a8 : PySem.W.nsIn K mainGlobals "label_of" = some (some (.ref f8)))
    (l8 : K.lookup f8 = some ⟨oc8, od8, .func (PySem.W.fnOf "label_of" "label_of" (defArgs s_label_of) (defBody s_label_of) (defScope s_label_of) .none kV8 dc8 pm8 an8 cd8 ct8), sl8⟩) (c8 : PySem.W.codeIn K cd8 "label_of" = true) (k8 : PySem.W.keepIn K (.ref f8) = true)
    (a9 : PySem.W.nsIn K mainGlobals "ordered_fields" = some (some (.ref f9)))
    (l9 : K.lookup f9 = some ⟨oc9, od9, .func (PySem.W.fnOf "ordered_fields" "ordered_fields" (defArgs s_ordered_fields) (defBody s_ordered_fields) (defScope s_ordered_fields) .none kV9 dc9 pm9 an9 (.ref cc) ct9), sl9⟩) (c9 : PySem.W.codeIn K (.ref cc) "ordered_fields" = true) (k9 : PySem.W.keepIn K (.ref f9) = true)
    (a10 : PySem.W.nsIn K mainGlobals "agrees_with_field" = some (some (.ref f10)))
    (l10 : K.lookup f10 = some ⟨oc10, od10, .func (PySem.W.fnOf "agrees_with_field" "agrees_with_field" (defArgs s_agrees_with_field) (defBody s_agrees_with_field) (defScope s_agrees_with_field) .none kV10 dc10 pm10 an10 cd10 ct10), sl10⟩) (c10 : PySem.W.codeIn K cd10 "agrees_with_field" = true) (k10 : PySem.W.keepIn K (.ref f10) = true)
    (a11 : PySem.W.nsIn K mainGlobals "agrees_with_level" = some (some (.ref f11)))
    (l11 : K.lookup f11 = some ⟨oc11, od11, .func (PySem.W.fnOf "agrees_with_level" "agrees_with_level" (defArgs s_agrees_with_level) (defBody s_agrees_with_level) (defScope s_agrees_with_level) .none kV11 dc11 pm11 an11 cd11 ct11), sl11⟩) (c11 : PySem.W.codeIn K cd11 "agrees_with_level" = true) (k11 : PySem.W.keepIn K (.ref f11) = true)
    (a12 : PySem.W.nsIn K mainGlobals "_law_box" = some (some (.ref f12)))
    (l12 : K.lookup f12 = some ⟨oc12, od12, .func (PySem.W.fnOf "_law_box" "_law_box" (defArgs s__law_box) (defBody s__law_box) (defScope s__law_box) .none kV12 dc12 pm12 an12 cd12 ct12), sl12⟩) (c12 : PySem.W.codeIn K cd12 "_law_box" = true) (k12 : PySem.W.keepIn K (.ref f12) = true)
    (a13 : PySem.W.nsIn K mainGlobals "_law_load" = some (some (.ref f13)))
    (l13 : K.lookup f13 = some ⟨oc13, od13, .func (PySem.W.fnOf "_law_load" "_law_load" (defArgs s__law_load) (defBody s__law_load) (defScope s__law_load) .none kV13 dc13 pm13 an13 cd13 ct13), sl13⟩) (c13 : PySem.W.codeIn K cd13 "_law_load" = true) (k13 : PySem.W.keepIn K (.ref f13) = true)
    (a14 : PySem.W.nsIn K mainGlobals "_law_draw" = some (some (.ref f14)))
    (l14 : K.lookup f14 = some ⟨oc14, od14, .func (PySem.W.fnOf "_law_draw" "_law_draw" (defArgs s__law_draw) (defBody s__law_draw) (defScope s__law_draw) .none kV14 dc14 pm14 an14 cd14 ct14), sl14⟩) (c14 : PySem.W.codeIn K cd14 "_law_draw" = true) (k14 : PySem.W.keepIn K (.ref f14) = true)
    (a15 : PySem.W.nsIn K mainGlobals "_law_row" = some (some (.ref f15)))
    (l15 : K.lookup f15 = some ⟨oc15, od15, .func (PySem.W.fnOf "_law_row" "_law_row" (defArgs s__law_row) (defBody s__law_row) (defScope s__law_row) .none kV15 dc15 pm15 an15 cd15 ct15), sl15⟩) (c15 : PySem.W.codeIn K cd15 "_law_row" = true) (k15 : PySem.W.keepIn K (.ref f15) = true)
    (a16 : PySem.W.nsIn K mainGlobals "_law_level" = some (some (.ref f16)))
    (l16 : K.lookup f16 = some ⟨oc16, od16, .func (PySem.W.fnOf "_law_level" "_law_level" (defArgs s__law_level) (defBody s__law_level) (defScope s__law_level) .none kV16 dc16 pm16 an16 cd16 ct16), sl16⟩) (c16 : PySem.W.codeIn K cd16 "_law_level" = true) (k16 : PySem.W.keepIn K (.ref f16) = true)
    (a17 : PySem.W.nsIn K mainGlobals "_law_other" = some (some (.ref f17)))
    (l17 : K.lookup f17 = some ⟨oc17, od17, .func (PySem.W.fnOf "_law_other" "_law_other" (defArgs s__law_other) (defBody s__law_other) (defScope s__law_other) .none kV17 dc17 pm17 an17 cd17 ct17), sl17⟩) (c17 : PySem.W.codeIn K cd17 "_law_other" = true) (k17 : PySem.W.keepIn K (.ref f17) = true)
    (a18 : PySem.W.nsIn K mainGlobals "_law_changed" = some (some (.ref f18)))
    (l18 : K.lookup f18 = some ⟨oc18, od18, .func (PySem.W.fnOf "_law_changed" "_law_changed" (defArgs s__law_changed) (defBody s__law_changed) (defScope s__law_changed) .none kV18 dc18 pm18 an18 cd18 ct18), sl18⟩) (c18 : PySem.W.codeIn K cd18 "_law_changed" = true) (k18 : PySem.W.keepIn K (.ref f18) = true)
    (a19 : PySem.W.nsIn K mainGlobals "law" = some (some (.ref f19)))
    (l19 : K.lookup f19 = some ⟨oc19, od19, .func (PySem.W.fnOf "law" "law" (defArgs s_law) (defBody s_law) (defScope s_law) .none kV19 dc19 pm19 an19 cd19 ct19), sl19⟩) (c19 : PySem.W.codeIn K cd19 "law" = true) (k19 : PySem.W.keepIn K (.ref f19) = true)
    (z_INT : PySem.W.nsIn K mainGlobals "INT" = some (some (.ref C_INT))) (y_INT : GD.rdK K 14 (.ref C_INT) = some INT_D)
    (z_UNIT : PySem.W.nsIn K mainGlobals "UNIT" = some (some (.ref C_UNIT))) (y_UNIT : GD.rdK K 14 (.ref C_UNIT) = some UNIT_D)
    (z_EXN : PySem.W.nsIn K mainGlobals "EXN" = some (some (.ref C_EXN))) (y_EXN : GD.rdK K 14 (.ref C_EXN) = some EXN_D)
    (z_BASIS : PySem.W.nsIn K mainGlobals "BASIS" = some (some (.ref C_BASIS))) (y_BASIS : GD.rdK K 14 (.ref C_BASIS) = some BASIS_D)
    (zn_int : PySem.W.nsIn K mainGlobals "int" = some none)
    (zn_len : PySem.W.nsIn K mainGlobals "len" = some none)
    (zn_list : PySem.W.nsIn K mainGlobals "list" = some none)
    (zn_range : PySem.W.nsIn K mainGlobals "range" = some none)
    (zn_sorted : PySem.W.nsIn K mainGlobals "sorted" = some none)
    (zn_tuple : PySem.W.nsIn K mainGlobals "tuple" = some none)
    (zn_zip : PySem.W.nsIn K mainGlobals "zip" = some none)
    (hNP : K.lookup PT = none) (hCP : PySem.W.codeHdIn K cc PT = true)
    : LamX.LawAtS l w K CX0 199 63 "script" mg fa h := by
  have e := hfa.symm.trans (PySem.W.mg_of X G a19)
  cases e
  have F0 := fun_mk (st := s_direct_parts) l0 c0 k0
  have b0 := F0.binds (ps := ["shape"]) fun _ _ _ _ _ _ us hl => match us, hl with | [_], _ => rfl
  have F1 := fun_mk (st := s_with_parts) l1 c1 k1
  have b1 := F1.binds (ps := ["shape", "new_parts"]) fun _ _ _ _ _ _ us hl => match us, hl with | [_, _], _ => rfl
  have F2 := fun_mk (st := s_replace_variables) l2 c2 k2
  have b2 := F2.binds (ps := ["shape", "mapping"]) fun _ _ _ _ _ _ us hl => match us, hl with | [_, _], _ => rfl
  have F3 := fun_mk (st := s_constructor_entries) l3 c3 k3
  have b3 := F3.binds (ps := ["entries"]) fun _ _ _ _ _ _ us hl => match us, hl with | [_], _ => rfl
  have F4 := fun_mk (st := s_constructors_of) l4 c4 k4
  have b4 := F4.binds (ps := ["entries", "stamp"]) fun _ _ _ _ _ _ us hl => match us, hl with | [_, _], _ => rfl
  have F5 := fun_mk (st := s_agrees_with_entry) l5 c5 k5
  have b5 := F5.binds (ps := ["entries", "entry", "args", "value", "store", "depth"]) fun _ _ _ _ _ _ us hl => match us, hl with | [_, _, _, _, _, _], _ => rfl
  have F6 := fun_mk (st := s_agrees_with_constructor) l6 c6 k6
  have b6 := F6.binds (ps := ["entries", "shape", "value", "store", "depth"]) fun _ _ _ _ _ _ us hl => match us, hl with | [_, _, _, _, _], _ => rfl
  have F7 := fun_mk (st := s_agrees) l7 c7 k7
  have b7 := F7.binds (ps := ["entries", "shape", "value", "store", "depth"]) fun _ _ _ _ _ _ us hl => match us, hl with | [_, _, _, _, _], _ => rfl
  have F8 := fun_mk (st := s_label_of) l8 c8 k8
  have b8 := F8.binds (ps := ["entry"]) fun _ _ _ _ _ _ us hl => match us, hl with | [_], _ => rfl
  have F9 := fun_mk (st := s_ordered_fields) l9 c9 k9
  have b9 := F9.binds (ps := ["level"]) fun _ _ _ _ _ _ us hl => match us, hl with | [_], _ => rfl
  have F10 := fun_mk (st := s_agrees_with_field) l10 c10 k10
  have b10 := F10.binds (ps := ["entries", "entry", "value", "store", "depth"]) fun _ _ _ _ _ _ us hl => match us, hl with | [_, _, _, _, _], _ => rfl
  have F11 := fun_mk (st := s_agrees_with_level) l11 c11 k11
  have b11 := F11.binds (ps := ["entries", "level", "value", "store", "depth"]) fun _ _ _ _ _ _ us hl => match us, hl with | [_, _, _, _, _], _ => rfl
  have F12 := fun_mk (st := s__law_box) l12 c12 k12
  have b12 := F12.binds (ps := ["script", "nodes"]) fun _ _ _ _ _ _ us hl => match us, hl with | [_, _], _ => rfl
  have F13 := fun_mk (st := s__law_load) l13 c13 k13
  have b13 := F13.binds (ps := ["box"]) fun _ _ _ _ _ _ us hl => match us, hl with | [_], _ => rfl
  have F14 := fun_mk (st := s__law_draw) l14 c14 k14
  have b14 := F14.binds (ps := ["box", "many"]) fun _ _ _ _ _ _ us hl => match us, hl with | [_, _], _ => rfl
  have F15 := fun_mk (st := s__law_row) l15 c15 k15
  have b15 := F15.binds (ps := ["box", "tag", "name", "deep"]) fun _ _ _ _ _ _ us hl => match us, hl with | [_, _, _, _], _ => rfl
  have F16 := fun_mk (st := s__law_level) l16 c16 k16
  have b16 := F16.binds (ps := ["box", "deep"]) fun _ _ _ _ _ _ us hl => match us, hl with | [_, _], _ => rfl
  have F17 := fun_mk (st := s__law_other) l17 c17 k17
  have b17 := F17.binds (ps := ["box", "value"]) fun _ _ _ _ _ _ us hl => match us, hl with | [_, _], _ => rfl
  have F18 := fun_mk (st := s__law_changed) l18 c18 k18
  have b18 := F18.binds (ps := ["box", "fields"]) fun _ _ _ _ _ _ us hl => match us, hl with | [_, _], _ => rfl
  have F19 := fun_mk (st := s_law) l19 c19 k19
  have b19 := F19.binds (ps := ["script"]) fun _ _ _ _ _ _ us hl => match us, hl with | [_], _ => rfl
  have T : Txt K mg { f_direct_parts := f0, d_direct_parts := _, f_with_parts := f1, d_with_parts := _, f_replace_variables := f2, d_replace_variables := _, f_constructor_entries := f3, d_constructor_entries := _, f_constructors_of := f4, d_constructors_of := _, f_agrees_with_entry := f5, d_agrees_with_entry := _, f_agrees_with_constructor := f6, d_agrees_with_constructor := _, f_agrees := f7, d_agrees := _, f_label_of := f8, d_label_of := _, f_ordered_fields := f9, d_ordered_fields := _, f_agrees_with_field := f10, d_agrees_with_field := _, f_agrees_with_level := f11, d_agrees_with_level := _, f__law_box := f12, d__law_box := _, f__law_load := f13, d__law_load := _, f__law_draw := f14, d__law_draw := _, f__law_row := f15, d__law_row := _, f__law_level := f16, d__law_level := _, f__law_other := f17, d__law_other := _, f__law_changed := f18, d__law_changed := _, f_law := fa, d_law := _, c_INT := C_INT, c_UNIT := C_UNIT, c_EXN := C_EXN, c_BASIS := C_BASIS } := { F_direct_parts := F0, b_direct_parts := b0, g_direct_parts := PySem.W.mg_of X G a0, F_with_parts := F1, b_with_parts := b1, g_with_parts := PySem.W.mg_of X G a1, F_replace_variables := F2, b_replace_variables := b2, g_replace_variables := PySem.W.mg_of X G a2, F_constructor_entries := F3, b_constructor_entries := b3, g_constructor_entries := PySem.W.mg_of X G a3, F_constructors_of := F4, b_constructors_of := b4, g_constructors_of := PySem.W.mg_of X G a4, F_agrees_with_entry := F5, b_agrees_with_entry := b5, g_agrees_with_entry := PySem.W.mg_of X G a5, F_agrees_with_constructor := F6, b_agrees_with_constructor := b6, g_agrees_with_constructor := PySem.W.mg_of X G a6, F_agrees := F7, b_agrees := b7, g_agrees := PySem.W.mg_of X G a7, F_label_of := F8, b_label_of := b8, g_label_of := PySem.W.mg_of X G a8, F_ordered_fields := F9, b_ordered_fields := b9, g_ordered_fields := PySem.W.mg_of X G a9, F_agrees_with_field := F10, b_agrees_with_field := b10, g_agrees_with_field := PySem.W.mg_of X G a10, F_agrees_with_level := F11, b_agrees_with_level := b11, g_agrees_with_level := PySem.W.mg_of X G a11, F__law_box := F12, b__law_box := b12, g__law_box := PySem.W.mg_of X G a12, F__law_load := F13, b__law_load := b13, g__law_load := PySem.W.mg_of X G a13, F__law_draw := F14, b__law_draw := b14, g__law_draw := PySem.W.mg_of X G a14, F__law_row := F15, b__law_row := b15, g__law_row := PySem.W.mg_of X G a15, F__law_level := F16, b__law_level := b16, g__law_level := PySem.W.mg_of X G a16, F__law_other := F17, b__law_other := b17, g__law_other := PySem.W.mg_of X G a17, F__law_changed := F18, b__law_changed := b18, g__law_changed := PySem.W.mg_of X G a18, F_law := F19, b_law := b19, g_law := PySem.W.mg_of X G a19, g_INT := PySem.W.mg_of X G z_INT, y_INT := fun H => GD.rdK_ref y_INT H, g_UNIT := PySem.W.mg_of X G z_UNIT, y_UNIT := fun H => GD.rdK_ref y_UNIT H, g_EXN := PySem.W.mg_of X G z_EXN, y_EXN := fun H => GD.rdK_ref y_EXN H, g_BASIS := PySem.W.mg_of X G z_BASIS, y_BASIS := fun H => GD.rdK_ref y_BASIS H, n_int := PySem.W.mg_none_of X G zn_int, n_len := PySem.W.mg_none_of X G zn_len, n_list := PySem.W.mg_none_of X G zn_list, n_range := PySem.W.mg_none_of X G zn_range, n_sorted := PySem.W.mg_none_of X G zn_sorted, n_tuple := PySem.W.mg_none_of X G zn_tuple, n_zip := PySem.W.mg_none_of X G zn_zip }
  have one : ∀ p ∈ [(cc, PT)], p = (cc, PT) := fun p hp => List.mem_singleton.mp hp
  exact ⟨_, [(cc, PT)], spLaw K PT, fun p hp => by rw [one p hp]; exact hTP, fun p hp => by rw [one p hp]; exact hNP, fun p hp => by rw [one p hp]; exact PySem.W.codeHd_of_K X hCP, fun s v => .of_eq rfl, fun H a ns hl _ hH hS => law_sp hl (hH (cc, PT) (List.mem_singleton.mpr rfl)) hS, fun base _ _ TB => ok_law T (TB (cc, PT) (List.mem_singleton.mpr rfl)) rfl⟩
theorem walk {l : PySem.W.OpenLaw} {q : Program} {loose : List Str} {XP : (Str → Option Value) → Heap → Prop} {YP : World → Heap → Prop} {d : DefRec} {K : Params → PySem.W.Frag} (hn : l.most = some 63) (hdf : d.params.defaults = [])
    (hY : ∀ (w : World) (h : Heap), YP w h → (K w.params).In h)
    (F : ∀ (w : World) (mg : Str → Option Value) (fa : Addr) (h : Heap), YP w h → (K w.params).In h → h.Ns mainGlobals mg → mg d.name = some (.ref fa) → LamX.LawAtS l w (K w.params) CX0 199 63 "script" mg fa h) :
    PySem.W.WalkO q loose XP YP l.row.toRowW d [] (fun f vs => PySem.call f vs) :=
  LamX.walk_ofTs (n := 63) (k := 199) (x := "script") (CX := fun _ => CX0) hn (by decide) hdf ⟨rfl, by decide, by decide⟩ hY F fun _ _ _ _ _ z => z
end K89
open PySem PySem.W PyProof.Rows in
set_option maxRecDepth 100000 in
set_option maxHeartbeats 0 in
theorem PySem.Challenge.cw_shapewright_k89_records_agree_holds : PySem.Challenge.rw_shapewright_k89_records_agree.Holds := by
  w_on; o_law; k_head; (case hw => w_witness2)
  k_fill
  refine K89.walk (l := PySem.Challenge.rw_shapewright_k89_records_agree) rfl rfl (fun w h Y => PySem.W.km_in_of Y) ?F
  case F =>
    intro w mg fa h Y KX G hmg
    refine' K89.all_mk KX G hmg (PySem.W.km_tabs_of Y _ (List.mem_cons_self ..)) ?a0 ?l0 ?c0 ?k0 ?a1 ?l1 ?c1 ?k1 ?a2 ?l2 ?c2 ?k2 ?a3 ?l3 ?c3 ?k3 ?a4 ?l4 ?c4 ?k4 ?a5 ?l5 ?c5 ?k5 ?a6 ?l6 ?c6 ?k6 ?a7 ?l7 ?c7 ?k7 ?a8 ?l8 ?c8 ?k8 ?a9 ?l9 ?c9 ?k9 ?a10 ?l10 ?c10 ?k10 ?a11 ?l11 ?c11 ?k11 ?a12 ?l12 ?c12 ?k12 ?a13 ?l13 ?c13 ?k13 ?a14 ?l14 ?c14 ?k14 ?a15 ?l15 ?c15 ?k15 ?a16 ?l16 ?c16 ?k16 ?a17 ?l17 ?c17 ?k17 ?a18 ?l18 ?c18 ?k18 ?a19 ?l19 ?c19 ?k19 ?z_INT ?y_INT ?z_UNIT ?y_UNIT ?z_EXN ?y_EXN ?z_BASIS ?y_BASIS ?zn_int ?zn_len ?zn_list ?zn_range ?zn_sorted ?zn_tuple ?zn_zip ?hNP ?hCP
    (case a0 => k_is)
    (case l0 => k_is)
    (case c0 => k_is)
    (case k0 => k_is)
    (case a1 => k_is)
    (case l1 => k_is)
    (case c1 => k_is)
    (case k1 => k_is)
    (case a2 => k_is)
    (case l2 => k_is)
    (case c2 => k_is)
    (case k2 => k_is)
    (case a3 => k_is)
    (case l3 => k_is)
    (case c3 => k_is)
    (case k3 => k_is)
    (case a4 => k_is)
    (case l4 => k_is)
    (case c4 => k_is)
    (case k4 => k_is)
    (case a5 => k_is)
    (case l5 => k_is)
    (case c5 => k_is)
    (case k5 => k_is)
    (case a6 => k_is)
    (case l6 => k_is)
    (case c6 => k_is)
    (case k6 => k_is)
    (case a7 => k_is)
    (case l7 => k_is)
    (case c7 => k_is)
    (case k7 => k_is)
    (case a8 => k_is)
    (case l8 => k_is)
    (case c8 => k_is)
    (case k8 => k_is)
    (case a9 => k_is)
    (case l9 => k_is)
    (case c9 => k_is)
    (case k9 => k_is)
    (case a10 => k_is)
    (case l10 => k_is)
    (case c10 => k_is)
    (case k10 => k_is)
    (case a11 => k_is)
    (case l11 => k_is)
    (case c11 => k_is)
    (case k11 => k_is)
    (case a12 => k_is)
    (case l12 => k_is)
    (case c12 => k_is)
    (case k12 => k_is)
    (case a13 => k_is)
    (case l13 => k_is)
    (case c13 => k_is)
    (case k13 => k_is)
    (case a14 => k_is)
    (case l14 => k_is)
    (case c14 => k_is)
    (case k14 => k_is)
    (case a15 => k_is)
    (case l15 => k_is)
    (case c15 => k_is)
    (case k15 => k_is)
    (case a16 => k_is)
    (case l16 => k_is)
    (case c16 => k_is)
    (case k16 => k_is)
    (case a17 => k_is)
    (case l17 => k_is)
    (case c17 => k_is)
    (case k17 => k_is)
    (case a18 => k_is)
    (case l18 => k_is)
    (case c18 => k_is)
    (case k18 => k_is)
    (case a19 => k_is)
    (case l19 => k_is)
    (case c19 => k_is)
    (case k19 => k_is)
    (case z_INT => k_is)
    (case y_INT => with_unfolding_all rfl)
    (case z_UNIT => k_is)
    (case y_UNIT => with_unfolding_all rfl)
    (case z_EXN => k_is)
    (case y_EXN => with_unfolding_all rfl)
    (case z_BASIS => k_is)
    (case y_BASIS => with_unfolding_all rfl)
    (case zn_int => k_is)
    (case zn_len => k_is)
    (case zn_list => k_is)
    (case zn_range => k_is)
    (case zn_sorted => k_is)
    (case zn_tuple => k_is)
    (case zn_zip => k_is)
    (case hNP => first | k_is | kernel_rfl)
    (case hCP => first | k_is | kernel_rfl)
