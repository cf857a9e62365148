import PyProof.Rows.All
import Wide.All
import OpenK.AllK
import Wide.FinOn
import HandS.ForMost
import HandS.ForExc
import HandS.Defaults
import HandS.IsInst
import HandS.More
import HandS.Flow
import HandS.Head0
import HandS.Head1
import HandS.Head2
import HandS.HeadEnd
import HandS.HeadHook1
import HandS.HeadHook2
import HandS.HeadHook3
import HandS.HeadHook4
import HandS.Walk
import HandS.FStr
import HandS.Style
import HandS.Small
import HandS.Wide
import Flt.Len
import HandS.Codes
import HandS.ExcValue
import HandS.ExcIs
import PySem.Challenge.RW_forkgather_k55_long_texts
set_option Elab.async false
set_option linter.all false
set_option maxRecDepth 100000
set_option maxHeartbeats 4000000
/-! ### PRE: own prelude over the hand layer -/
namespace PreX
open PySem PySem.Spec PyProof.Rows L2

/-! heaps -/
def hid (b : Addr) (H : Hp) : Hp := fun a => if a = b then none else H a
theorem hid_at {b : Addr} {H : Hp} : hid b H b = none := by unfold hid; rw [if_pos rfl]
theorem hid_ne {a b : Addr} {H : Hp} (h : a ≠ b) : hid b H a = H a := by unfold hid; rw [if_neg h]
theorem hid_some {a b : Addr} {H : Hp} {o : HO} (h : hid b H a = some o) : a ≠ b ∧ H a = some o := by
  by_cases e : a = b
  · subst e; rw [hid_at] at h; cases h
  · exact ⟨e, by rw [hid_ne e] at h; exact h⟩
theorem hid_le {b : Addr} {H : Hp} : Same (hid b H) H := fun _ _ h => (hid_some h).2
theorem hid_same {b : Addr} {H H' : Hp} (h : Same H H') : Same (hid b H) (hid b H') := fun a o e => by
  obtain ⟨n, e⟩ := hid_some e
  rw [hid_ne n]; exact h _ _ e
theorem hid_upd {b : Addr} {H : Hp} {o : HO} : hid b (upd H b o) = hid b H := by
  funext a
  by_cases e : a = b
  · subst e; rw [hid_at, hid_at]
  · rw [hid_ne e, hid_ne e, upd_ne e]
theorem hid_upd_ne {b p : Addr} {H : Hp} {o : HO} (h : p ≠ b) : hid b (upd H p o) = upd (hid b H) p o := by
  funext a
  by_cases e : a = b
  · subst e; rw [hid_at, upd_ne (Ne.symm h), hid_at]
  · rw [hid_ne e]
    by_cases e2 : a = p
    · subst e2; rw [upd_same, upd_same]
    · rw [upd_ne e2, upd_ne e2, hid_ne e]
theorem hid_comm {a b : Addr} {H : Hp} : hid a (hid b H) = hid b (hid a H) := by
  funext c
  unfold hid
  by_cases e1 : c = a <;> by_cases e2 : c = b <;> simp [e1, e2]
theorem same_new {H : Hp} {p : Addr} {o : HO} (h : H p = none) : Same H (upd H p o) := fun b u q => by rw [upd_ne (ne_of_none q h)]; exact q
theorem hid_none {b : Addr} {H : Hp} (h : H b = none) : hid b H = H := by
  funext a
  by_cases e : a = b
  · subst e; rw [hid_at, h]
  · rw [hid_ne e]
theorem same_hid {p : Addr} {H H' : Hp} (h : H p = none) (s : Same H H') : Same H (hid p H') := by
  have e := hid_same (b := p) s
  rw [hid_none h] at e
  exact e
/-- p is new and written: what stood stands -/
theorem same_upd {H H' : Hp} {p : Addr} {o : HO} (h : H p = none) (s : Same H H') : Same H (upd H' p o) := fun b u q => by rw [upd_ne (ne_of_none q h)]; exact s _ _ q
/-- all but what stands at b is as it was -/
abbrev SameBut (b : Addr) (H H' : Hp) : Prop := Same (hid b H) (hid b H')
theorem SameBut.free {b p : Addr} {H H' : Hp} (s : SameBut b H H') (n : p ≠ b) (h : H' p = none) : H p = none := by
  have q := Same.free s (l := p) (by rw [hid_ne n]; exact h)
  rw [hid_ne n] at q; exact q
theorem SameBut.get {b a : Addr} {o : HO} {H H' : Hp} (s : SameBut b H H') (n : a ≠ b) (h : H a = some o) : H' a = some o := by
  have q := s a o (by rw [hid_ne n]; exact h)
  rw [hid_ne n] at q; exact q
theorem SameBut.of {b : Addr} {H H' : Hp} (s : Same H H') : SameBut b H H' := hid_same s
theorem SameBut.write {b : Addr} {H : Hp} {o : HO} : SameBut b H (upd H b o) := by
  unfold SameBut; rw [hid_upd]; exact Same.refl _

/-! data that is tracked -/
mutual
inductive Dt (H : Hp) : V → PyData → Prop
  | non : Dt H .non .none
  | bl (b : Bool) : Dt H (.bl b) (.bool b)
  | int (i : Int) : Dt H (.int i) (.int i)
  | str (x : Str) : Dt H (.str x) (.str x)
  | lst {a : Addr} {xs : List V} {ds : List PyData} : H a = some (.lst xs) → DtA H xs ds → Dt H (.ref a) (.list ds)
  | tup {a : Addr} {xs : List V} {ds : List PyData} : H a = some (.tup xs) → DtA H xs ds → Dt H (.ref a) (.tuple ds)
inductive DtA (H : Hp) : List V → List PyData → Prop
  | nil : DtA H [] []
  | cons {v : V} {vs : List V} {d : PyData} {ds : List PyData} : Dt H v d → DtA H vs ds → DtA H (v :: vs) (d :: ds)
end
mutual
theorem Dt.mono {H H' : Hp} (s : Same H H') : ∀ {v : V} {d : PyData}, Dt H v d → Dt H' v d
  | _, _, .non => .non
  | _, _, .bl b => .bl b
  | _, _, .int i => .int i
  | _, _, .str x => .str x
  | _, _, .lst h a => .lst (s _ _ h) (DtA.mono s a)
  | _, _, .tup h a => .tup (s _ _ h) (DtA.mono s a)
theorem DtA.mono {H H' : Hp} (s : Same H H') : ∀ {v : List V} {d : List PyData}, DtA H v d → DtA H' v d
  | _, _, .nil => .nil
  | _, _, .cons h a => .cons (Dt.mono s h) (DtA.mono s a)
end
mutual
theorem Dt.dp {K : PySem.W.Frag} {H : Hp} : ∀ {v : V} {d : PyData}, Dt H v d → Dp K H v d
  | _, _, .non => .non
  | _, _, .bl b => .bl b
  | _, _, .int i => .int i
  | _, _, .str x => .str x
  | _, _, .lst h a => .lst (SqL.of h) (DtA.dp a)
  | _, _, .tup h a => .tup (SqT.of h) (DtA.dp a)
theorem DtA.dp {K : PySem.W.Frag} {H : Hp} : ∀ {v : List V} {d : List PyData}, DtA H v d → DpAll K H v d
  | _, _, .nil => .nil
  | _, _, .cons h a => .cons (Dt.dp h) (DtA.dp a)
end
theorem DtA.length {H : Hp} : ∀ {v : List V} {d : List PyData}, DtA H v d → v.length = d.length
  | _, _, .nil => rfl
  | _, _, .cons _ a => congrArg Nat.succ a.length
theorem DtA.append {H : Hp} : ∀ {v w : List V} {d e : List PyData}, DtA H v d → DtA H w e → DtA H (v ++ w) (d ++ e)
  | _, _, _, _, .nil, b => b
  | _, _, _, _, .cons h a, b => .cons h (a.append b)
theorem DtA.get {H : Hp} : ∀ {vs : List V} {ds : List PyData} {i : Nat} {v : V}, DtA H vs ds → vs[i]? = some v → ∃ d, ds[i]? = some d ∧ Dt H v d
  | _, _, _, _, .nil, e => by simp at e
  | _, _, 0, _, .cons h _, e => ⟨_, rfl, by simpa using (by simpa using e : _ = _) ▸ h⟩
  | _, _, i + 1, _, .cons _ a, e => by
    obtain ⟨d, h1, h2⟩ := DtA.get (i := i) a (by simpa using e)
    exact ⟨d, by simpa using h1, h2⟩
theorem DtA.getd {H : Hp} : ∀ {vs : List V} {ds : List PyData} {i : Nat} {d : PyData}, DtA H vs ds → ds[i]? = some d → ∃ v, vs[i]? = some v ∧ Dt H v d
  | _, _, _, _, .nil, e => by simp at e
  | _, _, 0, _, .cons h _, e => ⟨_, rfl, by simpa using (by simpa using e : _ = _) ▸ h⟩
  | _, _, i + 1, _, .cons _ a, e => by
    obtain ⟨d, h1, h2⟩ := DtA.getd (i := i) a (by simpa using e)
    exact ⟨d, by simpa using h1, h2⟩
theorem DtA.set {H : Hp} {v : V} {d : PyData} (h : Dt H v d) : ∀ {vs : List V} {ds : List PyData} (i : Nat), DtA H vs ds → DtA H (vs.set i v) (ds.set i d)
  | _, _, _, .nil => .nil
  | _, _, 0, .cons _ a => .cons h a
  | _, _, i + 1, .cons q a => .cons q (DtA.set h i a)
theorem DtA.drop {H : Hp} : ∀ {vs : List V} {ds : List PyData} (n : Nat), DtA H vs ds → DtA H (vs.drop n) (ds.drop n)
  | _, _, 0, a => a
  | _, _, _ + 1, .nil => .nil
  | _, _, n + 1, .cons _ a => DtA.drop n a
theorem DtA.take {H : Hp} : ∀ {vs : List V} {ds : List PyData} (n : Nat), DtA H vs ds → DtA H (vs.take n) (ds.take n)
  | _, _, 0, _ => .nil
  | _, _, _ + 1, .nil => .nil
  | _, _, n + 1, .cons h a => .cons h (DtA.take n a)
theorem DtA.one {H : Hp} {v : V} {d : PyData} (h : Dt H v d) : DtA H [v] [d] := .cons h .nil
/-- texts -/
theorem DtA.strs {H : Hp} : ∀ zs : List Str, DtA H (zs.map V.str) (zs.map PyData.str)
  | [] => .nil
  | z :: r => .cons (.str z) (DtA.strs r)

/-! types of data, isinstance -/
def tyN : PyData → String
  | .none => "NoneType" | .bool _ => "bool" | .int _ => "int" | .str _ => "str" | .list _ => "list" | .tuple _ => "tuple" | .dict _ => "dict"
theorem Dt.ty {K : PySem.W.Frag} {H : Hp} {v : V} {d : PyData} (h : Dt H v d) : TyX K H v (.type (tyN d)) := by
  cases h with
  | non => exact .base .non
  | bl b => exact .base (.bl b)
  | int i => exact .base (.int i)
  | str x => exact .base (.str x)
  | lst h _ => exact .base (.lst h)
  | tup h _ => exact .base (.tup h)

/-! powers -/
def CPowW (i j : Int) : Prop := 0 ≤ j ∧ j ≤ 64 ∧ i.natAbs < 2 ^ 4000
theorem op_powW {X : Cx} : OpR X (binaryOp .Pow) (rI CPowW fun i j => .int (i ^ j.toNat)) := opI fun i j _ _ _ _ _ hc q => by
  have h1 : (0 : Int) ≤ j := hc.1
  have h2 : j ≤ 64 := hc.2.1
  have h3 : i.natAbs < 2 ^ 4000 := hc.2.2
  refine pow_int h1 ?_ q
  have b : Builtin.Int.intBits i ≤ i.natAbs.log2 + 1 := by
    unfold Builtin.Int.intBits
    split <;> omega
  have l : i.natAbs.log2 < 4000 := PySem.Flt.log2_lt_of (by decide) h3
  have c : (Builtin.Int.intBits i : Int) ≤ 4000 := by omega
  have d : (Builtin.Int.intBits i : Int) * j ≤ 4000 * 64 := Int.mul_le_mul c h2 h1 (by decide)
  have e : (4000 * 64 : Int) ≤ 2 ^ 27 := by decide
  omega
theorem natAbs_lt {i : Int} {n : Nat} (h0 : 0 ≤ i) (h : i < ((2 ^ n : Nat) : Int)) : i.natAbs < 2 ^ n := by
  have e : (i.natAbs : Int) = i := Int.natAbs_of_nonneg h0
  omega
end PreX
namespace PreX
open PySem PySem.Spec PyProof.Rows L2
theorem dT {p : Prop} [Decidable p] (h : decide p = true) : p := of_decide_eq_true h
theorem dF {p : Prop} [Decidable p] (h : ¬ decide p = true) : ¬ p := of_decide_eq_false (Bool.eq_false_iff.mpr h)
theorem iteD {p A B : Prop} [Decidable p] (h1 : p → A) (h2 : ¬ p → B) : if decide p = true then A else B := ite2 (fun c => h1 (dT c)) fun c => h2 (dF c)
theorem iteDN {p A B : Prop} [Decidable p] (h1 : ¬ p → A) (h2 : p → B) : if (!decide p) = true then A else B := by
  by_cases h : p
  · rw [decide_eq_true h]; exact iteF (h2 h)
  · rw [decide_eq_false h]; exact iteT (h1 h)
theorem iteB {b : Bool} {A B : Prop} (h1 : b = true → A) (h2 : b = false → B) : if b = true then A else B := by
  cases b with
  | true => exact iteT (h1 rfl)
  | false => exact iteF (h2 rfl)
theorem iteBN {b : Bool} {A B : Prop} (h1 : b = false → A) (h2 : b = true → B) : if (!b) = true then A else B := by
  cases b with
  | true => exact iteF (h2 rfl)
  | false => exact iteT (h1 rfl)
/-- a promise that asks for what cannot be -/
theorem none_sp {P : Program} {w : World} {K : PySem.W.Frag} {mg : Str → Option Value} {base : Heap} {CX : CXT} {k : Nat} {f : Addr} {fd : FuncData} {ps : List Str} {sp : Sp} (no : ∀ vs H Q E, ¬ sp vs H Q E) : FnOk P w K mg base CX k f fd ps sp :=
  ⟨fun vs H Q E h => absurd h (no vs H Q E), fun A outer s H args us vs Q E _ _ _ _ h => absurd h (no vs H Q E)⟩
end PreX
namespace PreX
open PySem PySem.Spec PyProof.Rows L2
/-! a dict of the top with text keys -/
theorem tabraw {fa : List He.Fa} {fn : List He.DefD} {ts : List He.Tab} {w : World} {K : PySem.W.Frag} (c : He.SaysT fa fn ts w K) (i : Nat) {tb : He.Tab} (h : ts[i]? = some tb) : He.dicW K (tb.1 K) = some (He.keysIn w.params tb.2) := by
  have e : ts.map (fun t => He.dicW K (t.1 K)) = ts.map fun t => some (He.keysIn w.params t.2) := congrArg (fun z : He.AlT => z.2) c
  have e2 : (ts.map fun t => He.dicW K (t.1 K))[i]? = (ts.map fun t => some (He.keysIn w.params t.2))[i]? := by rw [e]
  rw [List.getElem?_map, List.getElem?_map, h] at e2
  exact Option.some.inj e2
theorem keyOf_shape {P : Params} : ∀ {l : List DictEntry} {ks : List Str}, l.map He.keyOf = He.keysIn P ks → ∀ e ∈ l, ∃ x t, e.key = .str x t ∧ x ∈ ks
  | [], _, _ => fun e h => nomatch h
  | a :: r, [], h => by cases h
  | a :: r, k :: ks, h => fun e he => by
    have h1 : He.keyOf a :: r.map He.keyOf = some (k, PyData.keyHash P k) :: He.keysIn P ks := h
    injection h1 with h2 h3
    rcases List.mem_cons.mp he with rfl | he
    · unfold He.keyOf at h2
      split at h2
      · rename_i x t q
        obtain ⟨h5, h6⟩ := Prod.mk.inj (Option.some.inj h2)
        exact ⟨x, t, q, by rw [h5]; exact List.mem_cons_self⟩
      · cases h2
    · obtain ⟨x, t, h4, h5⟩ := keyOf_shape h3 e he
      exact ⟨x, t, h4, List.mem_cons_of_mem _ h5⟩
theorem nsIn_out {K : PySem.W.Frag} {P : Params} {a : Addr} {ks : List Str} {z : Str} (h : He.dicW K a = some (He.keysIn P ks)) (hz : z ∉ ks) : PySem.W.nsIn K a z = some none := by
  unfold He.dicW at h
  unfold PySem.W.nsIn
  cases q : K.lookup a with
  | none => rw [q] at h; cases h
  | some o =>
    obtain ⟨oc, od, dt, osl⟩ := o
    rw [q] at h
    cases oc with
    | type c =>
      cases od with
      | none =>
        cases dt with
        | dict es n =>
          have h1 : (match decide (c = "dict") && (osl.isEmpty && !(a == sysModules)) with
            | true => some (es.toList.map He.keyOf)
            | false => none) = some (He.keysIn P ks) := h
          split at h1
          · have h2 := keyOf_shape (Option.some.inj h1)
            have e1 : es.toList.find? (fun x => x.key.isStr z) = none := by
              rw [List.find?_eq_none]
              intro e he
              obtain ⟨x, t, hk, hx⟩ := h2 e he
              rw [hk]
              intro hq
              have : x = z := by simpa [Value.isStr] using hq
              exact hz (this ▸ hx)
            have e2 : es.toList.any (fun x => x.refKey) = false := by
              rw [List.any_eq_false]
              intro e he
              obtain ⟨x, t, hk, hx⟩ := h2 e he
              simp [DictEntry.refKey, hk]
            show (match es.toList.find? (fun x => x.key.isStr z) with
              | some e => some (some e.val)
              | none => if es.toList.any (fun x => x.refKey) = true then none else some none) = some none
            rw [e1]
            show (if es.toList.any (fun x => x.refKey) = true then none else some none) = some none
            rw [e2, if_neg Bool.false_ne_true]
          · cases h1
        | _ => cases h
      | some b => cases dt <;> cases h
    | _ => cases od <;> cases dt <;> cases h
end PreX
namespace PreX
open PySem PySem.Spec PyProof.Rows L2
theorem ix_kd {X : Cx} {d : Addr} {es : Array DictEntry} {n : Nat} (D : KDict X.K X.w d es n) : IxR X (fun x y H Q => ∃ (z : Str) (u0 : Value) (v0 : V), x = .ref d ∧ y = .str z ∧ PySem.W.nsIn X.K d z = some (some u0) ∧ RelV v0 u0 ∧ Q v0 H) := by
  intro value slice pins s σ H x y v u Q I rx ry h hs
  obtain ⟨z, u0, v0, rfl, rfl, e, r, q⟩ := h
  cases rx
  exact tail_any (kd_type D I) PySem.F.slot_dict_getitem.lookup (op_item_kd D pins s σ H (.ref d) (.str z) _ _ Q I rfl ry ⟨z, u0, v0, rfl, rfl, e, r, q⟩) hs
end PreX
namespace PreX
open PySem PySem.Spec PyProof.Rows L2
theorem at0 {α : Type} {x : α} {xs : List α} : atI (x :: xs) 0 = some x := atI_nat (j := 0) rfl
theorem at1 {α : Type} {x y : α} {xs : List α} : atI (x :: y :: xs) 1 = some y := atI_nat (j := 1) rfl
theorem at2 {α : Type} {x y z : α} {xs : List α} : atI (x :: y :: z :: xs) 2 = some z := atI_nat (j := 2) rfl
theorem atI_int {xs : List V} {i : Int} {k : Nat} {v : V} (h : i = (k : Int)) (e : xs[k]? = some v) : atI xs i = some v := by
  subst h; exact atI_nat e
end PreX
namespace PreX
open PySem PySem.Spec PyProof.Rows L2
/-! the rules that speak of the written part, with its name (for comprehensions' blocks) -/
section
variable {X : Cx} (K : PySem.W.Frag) (h : X.K = K)
include h
theorem call_isi_k : CallR X (.builtin "isinstance") (rIsi K) := by subst h; exact call_isi
theorem call_isiT_k : CallR X (.builtin "isinstance") (rIsiT K) := by subst h; exact call_isiT
def rLenS (K : PySem.W.Frag) : List V → Hp → VK → Prop := fun xs H Q => ∃ p ys, xs = [.ref p] ∧ (SqL K H p ys ∨ SqT K H p ys) ∧ Q (.int ys.length) H
theorem call_len_seq_k : CallR X (.builtin "len") (rLenS K) := by subst h; exact call_len_seq
def rListOf (K : PySem.W.Frag) : List V → Hp → VK → Prop := fun xs H Q => ∃ p ys, xs = [.ref p] ∧ (SqL K H p ys ∨ SqT K H p ys) ∧ ∀ l, H l = none → Q (.ref l) (upd H l (.lst ys))
theorem call_list_of_k : CallR X (.type "list") (rListOf K) := by subst h; exact call_list_of
def rTupleOf (K : PySem.W.Frag) : List V → Hp → VK → Prop := fun xs H Q => ∃ p ys, xs = [.ref p] ∧ ((SqL K H p ys ∧ ∀ l, H l = none → Q (.ref l) (upd H l (.tup ys))) ∨ (SqT K H p ys ∧ Q (.ref p) H))
theorem call_tuple_of_k : CallR X (.type "tuple") (rTupleOf K) := by subst h; exact call_tuple_of
theorem ix_list_k : IxR X (rIxL K) := by subst h; exact ix_list
theorem ix_tup_k : IxR X (rIxT K) := by subst h; exact ix_tup
theorem op_in_seq_k : OpR X (compareOp .In) (rIn K false) := by subst h; exact op_in_seq
theorem op_notIn_seq_k : OpR X (compareOp .NotIn) (rIn K true) := by subst h; exact op_notIn_seq
theorem op_eqD_k (hu : X.A.units + 64 < cLine) : OpR X (compareOp .Eq) (rEqD K) := by subst h; exact op_eqD hu
theorem op_neD_k (hu : X.A.units + 64 < cLine) : OpR X (compareOp .NotEq) (rNeD K) := by subst h; exact op_neD hu
theorem sl_list_k : SlR X (rSlL K) := by subst h; exact sl_list
theorem sl_tup_k : SlR X (rSlT K) := by subst h; exact sl_tup
theorem op_catT_k : OpR X (binaryOp .Add) (rCatT K) := by subst h; exact op_catT
theorem cr_all_k (hc : X.calm = true) : CallR X (.builtin "all") (rAll K) := by subst h; exact cr_all hc
theorem cr_any_k (hc : X.calm = true) : CallR X (.builtin "any") (rAny K) := by subst h; exact cr_any hc
theorem cr_sum_k (hc : X.calm = true) : CallR X (.builtin "sum") (rSum K) := by subst h; exact cr_sum hc
theorem cr_max_k (hc : X.calm = true) : CallR X (.builtin "max") (rMax K) := by subst h; exact cr_max hc
theorem cr_min_k (hc : X.calm = true) : CallR X (.builtin "min") (rMin K) := by subst h; exact cr_min hc
theorem cr_sortedS_k : CallR X (.builtin "sorted") (rSortedS K) := by subst h; exact cr_sortedS
theorem pi_list_k {tg l : Expr} {tl : TE} (hl : PE X l tl) : PI X tg l (iList K tl) := by subst h; exact pi_list hl
theorem pi_tup_k {tg l : Expr} {tl : TE} (hl : PE X l tl) : PI X tg l (iTup K tl) := by subst h; exact pi_tup hl
def rJoin (K : PySem.W.Frag) : V → List V → Hp → VK → Prop := fun x xs H Q => ∃ a p, ∃ ys : List Str, x = .str a ∧ xs = [.ref p] ∧ (SqL K H p (ys.map V.str) ∨ SqT K H p (ys.map V.str)) ∧ (ys.map (·.length)).sum + ys.length * a.length ≤ 16777216 ∧ Q (.str (Txt.join a ys)) H
end
end PreX
namespace PreX
open PySem PySem.Spec PyProof.Rows L2
/-- what a range from 0 gives -/
theorem yfn0 {i : Nat} {H x H'} (y : YFn (fun i => .int ((0 : Int) + (i : Nat))) i H x H') : H' = H ∧ x = .int ((i : Nat) : Int) := by
  obtain ⟨h1, h2⟩ := y
  refine ⟨h1, h2.trans ?_⟩
  show V.int ((0 : Int) + (i : Nat)) = _
  rw [Int.zero_add]
end PreX
local macro_rules | `(tactic| array_mem_dec) => `(tactic| first | exact PreX.at0 | exact PreX.at1 | exact PreX.at2 | exact L2.atI_nat (by assumption))
local macro_rules | `(tactic| array_get_dec) => `(tactic| first
  | refine ⟨_, rfl, ?_⟩
  | refine ⟨rfl, ?_⟩
  | refine ⟨_, _, rfl, rfl, ?_⟩
  | refine ⟨_, _, _, _, rfl, rfl, L2.SqL.of (by assumption), (by array_mem_dec), ?_⟩
  | refine ⟨_, _, _, _, rfl, rfl, L2.SqT.of (by assumption), (by array_mem_dec), ?_⟩
  | refine And.intro (by assumption) ?_
  | refine ⟨_, _, _, rfl, rfl, L2.SqL.of (by assumption), L2.SqL.of L2.upd_same, ?_⟩
  | refine And.intro (by show 0 ≤ PySem.sizeLine; decide) ?_
  | refine And.intro (by show 1 ≤ PySem.sizeLine; decide) ?_
  | refine And.intro (by show 2 ≤ PySem.sizeLine; decide) ?_
  | refine And.intro (by show 3 ≤ PySem.sizeLine; decide) ?_
  | refine And.intro (by show 4 ≤ PySem.sizeLine; decide) ?_
  | refine And.intro (by show 5 ≤ PySem.sizeLine; decide) ?_)
local macro_rules | `(tactic| sizeOf_list_dec) => `(tactic| repeat array_get_dec)
/-! ### MX: programs as data, whether something is one, how it is written and read: plain lists of codes -/
namespace FG
open PySem
abbrev L := List Nat
def S (l : L) : Str := ⟨l.toArray⟩
theorem S_cps (l : L) : (S l).cps.toList = l := by simp [S]
theorem S_of (x : Str) : S x.cps.toList = x := by cases x; simp [S]
theorem S_len (l : L) : (S l).length = l.length := by simp [S, Str.length]
theorem S_app (a b : L) : S a ++ S b = S (a ++ b) := by
  show (⟨a.toArray ++ b.toArray⟩ : Str) = ⟨(a ++ b).toArray⟩
  simp
theorem S_inj {a b : L} (h : S a = S b) : a = b := by
  have := congrArg (fun x : Str => x.cps.toList) h
  rwa [S_cps, S_cps] at this
theorem S_eq {a b : L} : S a = S b ↔ a = b := ⟨S_inj, fun h => by rw [h]⟩
theorem S_dec {a b : L} : decide (S a = S b) = decide (a = b) := by
  by_cases h : a = b
  · rw [h]; simp
  · rw [decide_eq_false h, decide_eq_false (fun q => h (S_inj q))]
def cs (s : String) : L := s.toList.map Char.toNat
theorem ofS (s : String) : Str.ofString s = S (cs s) := Str.ofString_eq_toList s

/-! expressions: a number, or a word with some of them -/
inductive GE where
  | num (i : Int)
  | node (w : L) (as : List GE)
def wArg : L := cs "arg"
def wCell : L := cs "cell"
def wAdd : L := cs "add"
def wLess : L := cs "less"
def wLeast : L := cs "least"
def parts (w : L) : Option Nat := if w = wArg then some 0 else if w = wCell then some 1 else if w = wAdd then some 2 else if w = wLess then some 2 else if w = wLeast then some 2 else none
mutual
def GE.d : GE → PyData
  | .num i => .int i
  | .node w as => .tuple (.str (S w) :: GE.ds as)
def GE.ds : List GE → List PyData
  | [] => []
  | e :: r => e.d :: GE.ds r
end
mutual
/-- is an expression, with so many within one another -/
def GE.ok : Nat → GE → Bool
  | 0, _ => false
  | _ + 1, .num _ => true
  | m + 1, .node w as => decide (parts w = some as.length) && GE.oks m as
def GE.oks : Nat → List GE → Bool
  | _, [] => true
  | m, e :: r => GE.ok m e && GE.oks m r
end
theorem GE.ds_map : ∀ as : List GE, GE.ds as = as.map GE.d
  | [] => rfl
  | e :: r => by rw [GE.ds, GE.ds_map r, List.map_cons]
theorem GE.oks_all : ∀ (m : Nat) (as : List GE), GE.oks m as = as.all (GE.ok m)
  | _, [] => by simp [GE.oks]
  | m, e :: r => by rw [GE.oks, GE.oks_all m r, List.all_cons]
/- how much is to be looked at -/
mutual
def GE.sz : GE → Nat
  | .num _ => 1
  | .node _ as => GE.szs as + 1
def GE.szs : List GE → Nat
  | [] => 0
  | e :: r => e.sz + GE.szs r
end

/-! steps -/
inductive GS where
  | wait
  | cell (a b : GE)
  | skip (e : GE) (m : Int)
  | other (w n : L) (e : GE)
def wWait : L := cs "wait"
def wSkip : L := cs "skip"
def wGive : L := cs "give"
def wFork : L := cs "fork"
def wCall : L := cs "call"
def GS.d : GS → PyData
  | .wait => .tuple [.str (S wWait)]
  | .cell a b => .tuple [.str (S wCell), a.d, b.d]
  | .skip e m => .tuple [.str (S wSkip), e.d, .int m]
  | .other w n e => .tuple [.str (S w), .str (S n), e.d]
def small (c : Nat) : Bool := decide (97 ≤ c) && decide (c ≤ 122)
def isName (n : L) : Bool := decide (1 ≤ n.length) && decide (n.length ≤ 8) && n.all small
/-- is a step: by the helpers' names, and how many steps are behind -/
def GS.ok (names : List L) (behind : Int) : GS → Bool
  | .wait => true
  | .cell a b => a.ok 5 && b.ok 5
  | .skip e m => e.ok 5 && (decide (1 ≤ m) && decide (m ≤ behind))
  | .other w n e => (decide (w = wGive) || decide (w = wFork) || decide (w = wCall)) && isName n && e.ok 5 && (decide (w = wGive) || decide (n ∈ names))
/-- what read_step tells has one of these words only so -/
def GS.plain : GS → Prop
  | .other w _ _ => w ≠ wCell ∧ w ≠ wSkip
  | _ => True
abbrev Helper := L × List GS
def hd (h : Helper) : PyData := .tuple [.str (S h.1), .list (h.2.map GS.d)]
def pd (p : List Helper) : PyData := .list (p.map hd)
/-- by letters -/
def ltL (a b : L) : Bool := decide (a < b)
def rising : List L → Bool
  | a :: b :: r => ltL a b && rising (b :: r)
  | _ => true
def stepsOk (names : List L) : List GS → Bool
  | [] => true
  | s :: r => s.ok names (r.length : Int) && stepsOk names r
def form (p : List Helper) : Bool := p.all (fun h => isName h.1) && rising (p.map (·.1))
def isProg (p : List Helper) : Bool := form p && p.all (fun h => stepsOk (p.map (·.1)) h.2)
end FG
/-! ### writing -/
namespace FG
open PySem
def joinL (sep : L) : List L → L
  | [] => []
  | [x] => x
  | x :: r => x ++ sep ++ joinL sep r
theorem join_S (sep : L) : ∀ xs : List L, Str.join (S sep) (xs.map S) = S (joinL sep xs)
  | [] => rfl
  | [x] => rfl
  | x :: y :: r => by
    have h := join_S sep (y :: r)
    show S x ++ S sep ++ Str.join (S sep) ((y :: r).map S) = S (x ++ sep ++ joinL sep (y :: r))
    rw [h, S_app, S_app]
theorem txtJoin_S (sep : L) (xs : List L) : Txt.join (S sep) (xs.map S) = S (joinL sep xs) := by
  show Builtin.Str.glued (S sep) (xs.map S) = _
  rw [StrLaws.glued_eq_join, join_S]
theorem joinL_len (sep : L) : ∀ xs : List L, xs ≠ [] → (joinL sep xs).length + sep.length = (xs.map List.length).sum + xs.length * sep.length
  | [], h => absurd rfl h
  | [x], _ => by simp [joinL]
  | x :: y :: r, _ => by
    have h := joinL_len sep (y :: r) (by simp)
    show (x ++ sep ++ joinL sep (y :: r)).length + sep.length = _
    rw [List.length_append, List.length_append]
    simp only [List.map_cons, List.sum_cons, List.length_cons, Nat.succ_mul] at h ⊢
    omega
theorem joinL_len_le (sep : L) (xs : List L) : (joinL sep xs).length ≤ (xs.map List.length).sum + xs.length * sep.length := by
  cases xs with
  | nil => simp [joinL]
  | cons x r =>
    have := joinL_len sep (x :: r) (by simp)
    omega
theorem mem_joinL_len (sep : L) : ∀ {xs : List L} {x : L}, x ∈ xs → x.length ≤ (joinL sep xs).length
  | [y], x, h => by
    have e := List.mem_singleton.mp h
    subst e
    exact Nat.le_refl _
  | y :: z :: r, x, h => by
    show x.length ≤ (y ++ sep ++ joinL sep (z :: r)).length
    rw [List.length_append, List.length_append]
    rcases List.mem_cons.mp h with rfl | h
    · omega
    · have := mem_joinL_len sep h
      omega
/-- the figures of a number -/
def dig (i : Int) : L := (Str.ofString (toString i)).cps.toList
theorem dig_S (i : Int) : Str.ofString (toString i) = S (dig i) := (S_of _).symm
mutual
def sh : GE → L
  | .num i => dig i
  | .node w [] => w
  | .node w (a :: r) => w ++ [91] ++ joinL [32] (shs (a :: r)) ++ [93]
def shs : List GE → List L
  | [] => []
  | e :: r => sh e :: shs r
end
theorem shs_map : ∀ as : List GE, shs as = as.map sh
  | [] => rfl
  | e :: r => by rw [shs, shs_map r, List.map_cons]
def shStep : GS → L
  | .wait => wWait
  | .cell a b => wCell ++ [32] ++ sh a ++ [32] ++ sh b
  | .skip e m => wSkip ++ [32] ++ sh e ++ [32] ++ dig m
  | .other w n e => w ++ [32] ++ n ++ [32] ++ sh e
def shHelper (h : Helper) : L := match h.2 with
  | [] => h.1 ++ [58]
  | s :: r => h.1 ++ [58, 32] ++ joinL [44, 32] ((s :: r).map shStep)
def shProg (p : List Helper) : L := joinL [59, 32] (p.map shHelper)
mutual
/-- numbers of few figures -/
def GE.few : GE → Prop
  | .num i => i.natAbs.log2 < 12900
  | .node _ as => GE.fews as
def GE.fews : List GE → Prop
  | [] => True
  | e :: r => e.few ∧ GE.fews r
end
theorem GE.fews_mem : ∀ {as : List GE}, GE.fews as → ∀ e ∈ as, e.few
  | a :: r, h, e, he => by
    rcases List.mem_cons.mp he with rfl | he
    · exact h.1
    · exact GE.fews_mem h.2 e he
def GS.few : GS → Prop
  | .wait => True
  | .cell a b => a.few ∧ b.few
  | .skip e m => e.few ∧ m.natAbs.log2 < 12900
  | .other _ _ e => e.few
end FG
namespace FG
open PySem
theorem joinL_snoc (sep : L) : ∀ (xs : List L) (x : L), xs ≠ [] → joinL sep (xs ++ [x]) = joinL sep xs ++ sep ++ x
  | [], _, h => absurd rfl h
  | [y], x, _ => rfl
  | y :: z :: r, x, _ => by
    have h := joinL_snoc sep (z :: r) x (by simp)
    show y ++ sep ++ joinL sep ((z :: r) ++ [x]) = y ++ sep ++ joinL sep (z :: r) ++ sep ++ x
    rw [h]
    simp only [List.append_assoc]
theorem joinL_prefix (sep : L) : ∀ (xs ys : List L), joinL sep xs <+: joinL sep (xs ++ ys)
  | [], ys => List.nil_prefix
  | [x], [] => List.prefix_refl _
  | [x], y :: r => by
    show x <+: x ++ sep ++ joinL sep (y :: r)
    rw [List.append_assoc]
    exact List.prefix_append _ _
  | x :: z :: r, ys => by
    have h := joinL_prefix sep (z :: r) ys
    show x ++ sep ++ joinL sep (z :: r) <+: x ++ sep ++ joinL sep ((z :: r) ++ ys)
    obtain ⟨t, e⟩ := h
    exact ⟨t, by rw [← e]; simp only [List.append_assoc]⟩
theorem joinL_take (sep : L) (xs : List L) (i : Nat) : (joinL sep (xs.take i)).length ≤ (joinL sep xs).length := by
  have h := joinL_prefix sep (xs.take i) (xs.drop i)
  rw [List.take_append_drop] at h
  exact h.length_le
theorem joinL_ne (sep : L) : ∀ {xs : List L}, xs ≠ [] → (∀ x ∈ xs, x ≠ []) → joinL sep xs ≠ []
  | [], h, _ => absurd rfl h
  | [x], _, h => h x List.mem_cons_self
  | x :: y :: r, _, h => by
    have := h x List.mem_cons_self
    show x ++ sep ++ joinL sep (y :: r) ≠ []
    intro e
    rw [List.append_assoc] at e
    exact this (List.append_eq_nil_iff.mp e).1
end FG
/-! ### MY: data of programs can be compared -/
namespace FG
open PySem
theorem strOk_asc {l : L} (h : ∀ c ∈ l, c < 128) : PyData.canLay0 (.str (S l)) = true := by
  show PyData.strOk (S l) = true
  unfold PyData.strOk
  simp only [Array.all_eq_true']
  intro c hc
  have hc : c ∈ l := by simpa [S] using hc
  have := h c hc
  simp
  omega
theorem name_asc {n : L} (h : isName n = true) : ∀ c ∈ n, c < 128 := by
  unfold isName at h
  simp only [Bool.and_eq_true, List.all_eq_true] at h
  intro c hc
  have := h.2 c hc
  unfold small at this
  simp only [Bool.and_eq_true, decide_eq_true_eq] at this
  omega
theorem word_asc {w : L} (h : w ∈ [wArg, wCell, wAdd, wLess, wLeast, wWait, wSkip, wGive, wFork, wCall]) : ∀ c ∈ w, c < 128 := by
  simp only [List.mem_cons, List.not_mem_nil, or_false] at h
  rcases h with h | h | h | h | h | h | h | h | h | h <;> subst h <;> decide
theorem parts_word {w : L} {n : Nat} (h : parts w = some n) : w ∈ [wArg, wCell, wAdd, wLess, wLeast, wWait, wSkip, wGive, wFork, wCall] ∧ n ≤ 2 := by
  unfold parts at h
  split at h
  · rename_i e; subst e; cases h; exact ⟨by simp, by omega⟩
  split at h
  · rename_i e; subst e; cases h; exact ⟨by simp, by omega⟩
  split at h
  · rename_i e; subst e; cases h; exact ⟨by simp, by omega⟩
  split at h
  · rename_i e; subst e; cases h; exact ⟨by simp, by omega⟩
  split at h
  · rename_i e; subst e; cases h; exact ⟨by simp, by omega⟩
  · cases h
/-- can be laid, of at most that depth -/
def Shp (k : Nat) (d : PyData) : Prop := d.canLay0 = true ∧ d.depth ≤ k
def ShpA (k : Nat) (ds : List PyData) : Prop := PyData.canLayAll0 ds = true ∧ PyData.depthAll ds ≤ k
theorem ShpA.nil {k : Nat} : ShpA k [] := ⟨rfl, Nat.zero_le _⟩
theorem ShpA.cons {k : Nat} {d : PyData} {ds : List PyData} (h : Shp k d) (a : ShpA k ds) : ShpA k (d :: ds) := by
  refine ⟨?_, ?_⟩
  · show (d.canLay0 && PyData.canLayAll0 ds) = true
    rw [h.1, a.1]; rfl
  · show max d.depth (PyData.depthAll ds) ≤ k
    exact Nat.max_le.mpr ⟨h.2, a.2⟩
theorem ShpA.map {α : Type} {f : α → PyData} {k : Nat} : ∀ {xs : List α}, (∀ x ∈ xs, Shp k (f x)) → ShpA k (xs.map f)
  | [], _ => .nil
  | x :: r, h => .cons (h x List.mem_cons_self) (ShpA.map fun y hy => h y (List.mem_cons_of_mem _ hy))
theorem Shp.tup {k : Nat} {ds : List PyData} (h : ShpA k ds) : Shp (k + 1) (.tuple ds) := ⟨h.1, Nat.succ_le_succ h.2⟩
theorem Shp.lst {k : Nat} {ds : List PyData} (h : ShpA k ds) : Shp (k + 1) (.list ds) := ⟨h.1, Nat.succ_le_succ h.2⟩
theorem Shp.mono {j k : Nat} {d : PyData} (h : Shp j d) (l : j ≤ k) : Shp k d := ⟨h.1, Nat.le_trans h.2 l⟩
theorem Shp.int {k : Nat} (i : Int) : Shp k (.int i) := ⟨rfl, Nat.zero_le _⟩
theorem Shp.str {k : Nat} {l : L} (h : ∀ c ∈ l, c < 128) : Shp k (.str (S l)) := ⟨strOk_asc h, Nat.zero_le _⟩
theorem Shp.shaped {k : Nat} {d : PyData} (h : Shp k d) (l : k ≤ 64) : SeqAt.shaped d = true := by
  unfold SeqAt.shaped
  rw [h.1, decide_eq_true (Nat.le_trans h.2 l)]
  rfl
theorem Shp.refl {k : Nat} {d : PyData} (h : Shp k d) : PyData.eqv d d = true := SeqAt.eqv_refl d h.1
mutual
theorem ge_shp : ∀ {m : Nat} {e : GE}, e.ok m = true → Shp m e.d
  | 0, _, h => by simp [GE.ok] at h
  | _ + 1, .num i, _ => .int i
  | m + 1, .node w as, h => by
    rw [GE.ok, Bool.and_eq_true, decide_eq_true_eq] at h
    exact .tup (.cons (.str (word_asc (parts_word h.1).1)) (ges_shp h.2))
theorem ges_shp : ∀ {m : Nat} {as : List GE}, GE.oks m as = true → ShpA m (GE.ds as)
  | _, [], _ => .nil
  | m, e :: r, h => by
    rw [GE.oks, Bool.and_eq_true] at h
    exact .cons (ge_shp h.1) (ges_shp h.2)
end
theorem gs_shp {names : List L} {b : Int} {s : GS} (h : s.ok names b = true) : Shp 6 s.d := by
  cases s with
  | wait => exact .tup (.cons (.str (word_asc (by simp))) .nil)
  | cell a b =>
    have h : (a.ok 5 && b.ok 5) = true := h
    rw [Bool.and_eq_true] at h
    exact .tup (.cons (.str (word_asc (by simp))) (.cons (ge_shp h.1) (.cons (ge_shp h.2) .nil)))
  | skip e m =>
    have h : (e.ok 5 && (decide (1 ≤ m) && decide (m ≤ b))) = true := h
    rw [Bool.and_eq_true] at h
    exact .tup (.cons (.str (word_asc (by simp))) (.cons (ge_shp h.1) (.cons (.int _) .nil)))
  | other w n e =>
    have h : ((decide (w = wGive) || decide (w = wFork) || decide (w = wCall)) && isName n && e.ok 5 && (decide (w = wGive) || decide (n ∈ names))) = true := h
    simp only [Bool.and_eq_true, Bool.or_eq_true, decide_eq_true_eq] at h
    obtain ⟨⟨⟨h1, h2⟩, h3⟩, _⟩ := h
    refine .tup (.cons (.str (word_asc ?_)) (.cons (.str (name_asc h2)) (.cons (ge_shp h3) .nil)))
    rcases h1 with (h1 | h1) | h1 <;> subst h1 <;> simp
theorem steps_mem {names : List L} : ∀ {ss : List GS}, stepsOk names ss = true → ∀ s ∈ ss, ∃ b, s.ok names b = true
  | a :: r, h, s, hs => by
    rw [stepsOk, Bool.and_eq_true] at h
    rcases List.mem_cons.mp hs with rfl | hs
    · exact ⟨_, h.1⟩
    · exact steps_mem h.2 s hs
theorem steps_shp {names : List L} {ss : List GS} (h : stepsOk names ss = true) : Shp 7 (.list (ss.map GS.d)) := .lst (.map fun s hs => by
  obtain ⟨b, e⟩ := steps_mem h s hs
  exact gs_shp e)
theorem prog_parts {p : List Helper} (h : isProg p = true) : ∀ x ∈ p, isName x.1 = true ∧ stepsOk (p.map (·.1)) x.2 = true := fun x hx => by
  unfold isProg form at h
  simp only [Bool.and_eq_true, List.all_eq_true] at h
  exact ⟨h.1.1 x hx, h.2 x hx⟩
theorem hd_shp {p : List Helper} (h : isProg p = true) : ∀ x ∈ p, Shp 8 (hd x) := fun x hx => by
  obtain ⟨h1, h2⟩ := prog_parts h x hx
  exact .tup (.cons (.str (name_asc h1)) (.cons (steps_shp h2) .nil))
theorem prog_shp {p : List Helper} (h : isProg p = true) : Shp 9 (pd p) := .lst (.map (hd_shp h))
/-! a step's parts -/
def ptD : L ⊕ GE → PyData | .inl l => .str (S l) | .inr e => e.d
def ptS : L ⊕ GE → L | .inl l => l | .inr e => sh e
def GS.ps : GS → List (L ⊕ GE)
  | .wait => [.inl wWait]
  | .cell a b => [.inl wCell, .inr a, .inr b]
  | .skip e m => [.inl wSkip, .inr e, .inr (.num m)]
  | .other w n e => [.inl w, .inl n, .inr e]
theorem ps_d (s : GS) : s.d = .tuple (s.ps.map ptD) := by cases s <;> rfl
theorem ps_sh (s : GS) : shStep s = joinL [32] (s.ps.map ptS) := by
  cases s <;> simp [GS.ps, shStep, joinL, ptS, sh]
end FG
namespace FG
open PySem
mutual
theorem ok_up : ∀ {m n : Nat} {e : GE}, m ≤ n → e.ok m = true → e.ok n = true
  | 0, _, _, _, h => by simp [GE.ok] at h
  | _ + 1, 0, _, l, _ => by omega
  | _ + 1, _ + 1, .num _, _, _ => rfl
  | m + 1, n + 1, .node w as, l, h => by
    rw [GE.ok, Bool.and_eq_true] at h ⊢
    exact ⟨h.1, oks_up (by omega) h.2⟩
theorem oks_up : ∀ {m n : Nat} {as : List GE}, m ≤ n → GE.oks m as = true → GE.oks n as = true
  | _, _, [], _, _ => rfl
  | m, n, e :: r, l, h => by
    rw [GE.oks, Bool.and_eq_true] at h ⊢
    exact ⟨ok_up l h.1, oks_up l h.2⟩
end
end FG
/-! ### MZ: the figures of numbers; how long what is drawn is -/
namespace FG
open PySem PySem.NumText PySem.W.KIN
/-- the figures of a natural number -/
def nd (n : Nat) : L := (Nat.toDigits 10 n).map Char.toNat
theorem dig_nat (n : Nat) : dig (n : Int) = nd n := signs_num n
theorem dig_neg (n : Nat) : dig (-((n + 1 : Nat) : Int)) = 45 :: nd (n + 1) := by
  unfold dig
  rw [Str.ofString_eq_toList]
  show (String.toList (toString (Int.negSucc n))).map Char.toNat = _
  have e : toString (Int.negSucc n) = "-" ++ toString (n + 1) := rfl
  rw [e, String.toList_append, List.map_append]
  show [45] ++ (Nat.repr (n + 1)).toList.map Char.toNat = _
  rw [Nat.toList_repr]
  rfl
theorem nd_digits (n : Nat) : AllDigits (nd n) := by
  intro c hc
  obtain ⟨d, hd, rfl⟩ := List.mem_map.mp hc
  have h := Nat.isDigit_of_mem_toDigits (by decide) (by decide) hd
  simp only [Char.isDigit, Bool.and_eq_true, decide_eq_true_eq] at h
  have h1 : (48 : UInt32).toNat ≤ d.val.toNat := by simpa using UInt32.le_iff_toNat_le.mp h.1
  have h2 : d.val.toNat ≤ (57 : UInt32).toNat := by simpa using UInt32.le_iff_toNat_le.mp h.2
  exact ⟨h1, h2⟩
theorem nd_val (n : Nat) : digitsVal (nd n) = n := val_back n
theorem nd_ne (n : Nat) : nd n ≠ [] := by
  intro h
  have := PyProof.Rows.tDigits_len_ge 10 n
  have e := congrArg List.length h
  unfold nd at e
  rw [List.length_map] at e
  rw [e] at this
  simp at this
theorem digitsVal_lt : ∀ (cs : L), AllDigits cs → digitsVal cs < 10 ^ cs.length := by
  intro cs h
  have key : ∀ (cs : L) (acc : Nat), AllDigits cs → cs.foldl (fun acc c => acc * 10 + (c - 48)) acc < (acc + 1) * 10 ^ cs.length := by
    intro cs
    induction cs with
    | nil => intro acc _; simp
    | cons c r ih =>
      intro acc h
      have hc := h.head
      have := ih (acc * 10 + (c - 48)) h.tail
      rw [List.foldl_cons, List.length_cons, Nat.pow_succ]
      refine Nat.lt_of_lt_of_le this ?_
      have e : (acc + 1) * (10 ^ r.length * 10) = (acc + 1) * 10 * 10 ^ r.length := by rw [Nat.mul_comm (10 ^ r.length) 10, Nat.mul_assoc]
      rw [e]
      exact Nat.mul_le_mul_right _ (by omega)
  have := key cs 0 h
  simpa [digitsVal] using this
theorem nd_len_le {n k : Nat} (hk : 1 ≤ k) (h : n < 10 ^ k) : (nd n).length ≤ k := by
  unfold nd
  rw [List.length_map]
  exact PyProof.Rows.digits10_le hk h
/-- no nought ahead -/
theorem nd_head (n : Nat) (r : L) (h : nd n = 48 :: r) : r = [] := by
  cases r with
  | nil => rfl
  | cons c t =>
    exfalso
    have hv := nd_val n
    have hd := nd_digits n
    rw [h] at hv hd
    have e : digitsVal (48 :: c :: t) = digitsVal (c :: t) := by simp [digitsVal]
    rw [e] at hv
    have h1 := digitsVal_lt (c :: t) hd.tail
    rw [hv] at h1
    have h2 := nd_len_le (k := (c :: t).length) (by simp) h1
    rw [h] at h2
    simp only [List.length_cons] at h2
    omega
mutual
def GE.tiny : GE → Prop
  | .num i => i.natAbs < 10 ^ 21
  | .node _ as => GE.tinys as
def GE.tinys : List GE → Prop
  | [] => True
  | e :: r => e.tiny ∧ GE.tinys r
end
theorem log_few {i : Int} (h : i.natAbs < 10 ^ 21) : i.natAbs.log2 < 12900 :=
  Nat.lt_of_lt_of_le (PySem.Flt.log2_lt_of (k := 70) (by decide) (Nat.lt_of_lt_of_le h (by decide))) (by decide)
mutual
theorem GE.tiny_few : ∀ {e : GE}, e.tiny → e.few
  | .num _, h => log_few h
  | .node _ as, h => GE.tinys_fews (as := as) h
theorem GE.tinys_fews : ∀ {as : List GE}, GE.tinys as → GE.fews as
  | [], _ => trivial
  | _ :: _, h => ⟨GE.tiny_few h.1, GE.tinys_fews h.2⟩
end
theorem dig_len {i : Int} (h : i.natAbs < 10 ^ 21) : (dig i).length ≤ 22 := by
  rcases Int.lt_or_le i 0 with h0 | h0
  · obtain ⟨n, rfl⟩ : ∃ n : Nat, i = -((n + 1 : Nat) : Int) := ⟨i.natAbs - 1, by omega⟩
    rw [dig_neg, List.length_cons]
    have := nd_len_le (n := n + 1) (k := 21) (by decide) (by omega)
    omega
  · obtain ⟨n, rfl⟩ : ∃ n : Nat, i = (n : Int) := ⟨i.toNat, by omega⟩
    rw [dig_nat]
    have := nd_len_le (n := n) (k := 21) (by decide) (by omega)
    omega
mutual
theorem sh_len : ∀ {m : Nat} {e : GE}, e.ok m = true → e.tiny → (sh e).length + 30 ≤ 30 * 2 ^ m
  | 0, _, h, _ => by simp [GE.ok] at h
  | m + 1, .num i, _, t => by
    have := dig_len t
    have h1 : 1 ≤ 2 ^ m := Nat.one_le_two_pow
    rw [sh, Nat.pow_succ]
    omega
  | m + 1, .node w as, h, t => by
    rw [GE.ok, Bool.and_eq_true, decide_eq_true_eq] at h
    have hw := parts_word h.1
    have hwl : w.length ≤ 5 := by
      have : ∀ w ∈ [wArg, wCell, wAdd, wLess, wLeast, wWait, wSkip, wGive, wFork, wCall], w.length ≤ 5 := by decide
      exact this w hw.1
    have h1 : 1 ≤ 2 ^ m := Nat.one_le_two_pow
    have hs := shs_len (as := as) h.2 t
    rw [Nat.pow_succ]
    cases as with
    | nil =>
      rw [sh]
      omega
    | cons a r =>
      rw [sh]
      simp only [List.length_append, List.length_singleton]
      have hj := joinL_len [32] (shs (a :: r)) (by simp [shs])
      have hl : (shs (a :: r)).length = (a :: r).length := by rw [shs_map, List.length_map]
      rw [hl] at hj
      simp only [List.length_singleton] at hj
      have h2 := hw.2
      have h3 : (a :: r).length * 30 + ((shs (a :: r)).map List.length).sum ≤ (a :: r).length * (30 * 2 ^ m) := by
        have := hs
        rw [Nat.add_comm]
        exact this
      generalize hX : 30 * 2 ^ m = X at *
      generalize hL : (a :: r).length = n at *
      have hn1 : 1 ≤ n := by rw [← hL]; simp
      have hn : n = 1 ∨ n = 2 := by omega
      rcases hn with rfl | rfl <;> omega
theorem shs_len : ∀ {m : Nat} {as : List GE}, GE.oks m as = true → GE.tinys as → ((shs as).map List.length).sum + as.length * 30 ≤ as.length * (30 * 2 ^ m)
  | _, [], _, _ => by simp [shs]
  | m, e :: r, h, t => by
    rw [GE.oks, Bool.and_eq_true] at h
    have h1 := sh_len h.1 t.1
    have h2 := shs_len h.2 t.2
    rw [shs, List.map_cons, List.sum_cons, List.length_cons, Nat.add_mul, Nat.add_mul]
    omega
end
def GS.tiny : GS → Prop
  | .wait => True
  | .cell a b => a.tiny ∧ b.tiny
  | .skip e m => e.tiny ∧ m.natAbs < 10 ^ 21
  | .other w _ e => e.tiny
theorem GS.tiny_few : ∀ {s : GS}, s.tiny → GS.few s
  | .wait, _ => trivial
  | .cell _ _, h => ⟨GE.tiny_few h.1, GE.tiny_few h.2⟩
  | .skip _ _, h => ⟨GE.tiny_few h.1, log_few h.2⟩
  | .other _ _ _, h => GE.tiny_few (e := _) h
theorem shStep_len {names : List L} {b : Int} {s : GS} (h : s.ok names b = true) (t : s.tiny) : (shStep s).length ≤ 2000 := by
  cases s with
  | wait => show wWait.length ≤ 2000; decide
  | cell x y =>
    have h : (x.ok 5 && y.ok 5) = true := h
    rw [Bool.and_eq_true] at h
    have h1 := sh_len h.1 t.1
    have h2 := sh_len h.2 t.2
    show (wCell ++ [32] ++ sh x ++ [32] ++ sh y).length ≤ 2000
    simp only [List.length_append, List.length_singleton, show wCell.length = 4 by decide]
    omega
  | skip e m =>
    have h : (e.ok 5 && (decide (1 ≤ m) && decide (m ≤ b))) = true := h
    rw [Bool.and_eq_true] at h
    have h1 := sh_len h.1 t.1
    have h2 := dig_len t.2
    show (wSkip ++ [32] ++ sh e ++ [32] ++ dig m).length ≤ 2000
    simp only [List.length_append, List.length_singleton, show wSkip.length = 4 by decide]
    omega
  | other w n e =>
    have h : ((decide (w = wGive) || decide (w = wFork) || decide (w = wCall)) && isName n && e.ok 5 && (decide (w = wGive) || decide (n ∈ names))) = true := h
    simp only [Bool.and_eq_true, Bool.or_eq_true, decide_eq_true_eq] at h
    have h1 := sh_len h.1.2 (show e.tiny from t)
    have hw : w.length ≤ 4 := by
      rcases h.1.1.1 with (h | h) | h <;> subst h <;> decide
    have hn : n.length ≤ 8 := by
      have := h.1.1.2
      unfold isName at this
      simp only [Bool.and_eq_true, decide_eq_true_eq] at this
      exact this.1.2
    show (w ++ [32] ++ n ++ [32] ++ sh e).length ≤ 2000
    simp only [List.length_append, List.length_singleton]
    omega
theorem sum_le {B : Nat} : ∀ (xs : List Nat), (∀ x ∈ xs, x ≤ B) → xs.sum ≤ xs.length * B
  | [], _ => by simp
  | x :: r, h => by
    rw [List.sum_cons, List.length_cons, Nat.succ_mul]
    have := sum_le r fun y hy => h y (List.mem_cons_of_mem _ hy)
    have := h x List.mem_cons_self
    omega
theorem joinL_bound {sep : L} {xs : List L} {B : Nat} (h : ∀ x ∈ xs, x.length ≤ B) : (joinL sep xs).length ≤ xs.length * (B + sep.length) := by
  have h1 := joinL_len_le sep xs
  have h2 := sum_le (B := B) (xs.map List.length) (fun x hx => by
    obtain ⟨y, hy, rfl⟩ := List.mem_map.mp hx
    exact h y hy)
  rw [List.length_map] at h2
  rw [Nat.mul_add]
  omega
/-- a drawn program is written in at most so many signs -/
theorem shProg_len {p : List Helper} (h : isProg p = true) (hl : p.length ≤ 12) (hs : ∀ x ∈ p, x.2.length ≤ 12 ∧ ∀ s ∈ x.2, s.tiny) : (shProg p).length ≤ 400000 := by
  have hh : ∀ x ∈ p, (shHelper x).length ≤ 30000 := fun x hx => by
    obtain ⟨h1, h2⟩ := prog_parts h x hx
    obtain ⟨h3, h4⟩ := hs x hx
    have hn : x.1.length ≤ 8 := by
      unfold isName at h1
      simp only [Bool.and_eq_true, decide_eq_true_eq] at h1
      exact h1.1.2
    obtain ⟨n, ss⟩ := x
    cases ss with
    | nil => 
      show (n ++ [58]).length ≤ 30000
      rw [List.length_append, List.length_singleton]
      have hn : n.length ≤ 8 := hn
      omega
    | cons a r =>
      show (n ++ [58, 32] ++ joinL [44, 32] ((a :: r).map shStep)).length ≤ 30000
      have hn : n.length ≤ 8 := hn
      have h2 : stepsOk (p.map (·.1)) (a :: r) = true := h2
      have h3 : (a :: r).length ≤ 12 := h3
      have h4 : ∀ s ∈ a :: r, s.tiny := h4
      generalize a :: r = ss at *
      have hb := joinL_bound (sep := [44, 32]) (xs := ss.map shStep) (B := 2000) (fun y hy => by
        obtain ⟨s, hs', rfl⟩ := List.mem_map.mp hy
        obtain ⟨b, hb⟩ := steps_mem h2 s hs'
        exact shStep_len hb (h4 s hs'))
      rw [List.length_map] at hb
      simp only [List.length_append, List.length_cons, List.length_nil] at hb ⊢
      have := Nat.mul_le_mul_right 2002 h3
      omega
  have hb := joinL_bound (sep := [59, 32]) (xs := p.map shHelper) (B := 30000) (fun y hy => by
    obtain ⟨s, hs', rfl⟩ := List.mem_map.mp hy
    exact hh s hs')
  rw [List.length_map] at hb
  simp only [List.length_cons, List.length_nil] at hb
  have := Nat.mul_le_mul_right 30002 hl
  unfold shProg
  omega
end FG
/-! ### MR: reading, on plain lists of codes -/
namespace FG
open PySem PySem.NumText L2
def isDig (c : Nat) : Bool := decide (48 ≤ c) && decide (c ≤ 57)
def figs (t : L) : L := if t.take 1 = [45] then t.drop 1 else t
def readNum (t : L) : Option Int :=
  if figs t = [] then none else if (figs t).all isDig = false then none else if (figs t).take 1 = [48] ∧ t ≠ [48] then none
  else some (if t.take 1 = [45] then -((digitsVal (figs t) : Nat) : Int) else ((digitsVal (figs t) : Nat) : Int))
def lvl (lv : Int) (c : Nat) : Int := if c = 91 then lv + 1 else if c = 93 then lv - 1 else lv
def partGo : Int → L → L → Option (List L)
  | _, cur, [] => some [cur]
  | lv, cur, c :: r => if lvl lv c < 0 then none else if c = 32 ∧ lvl lv c = 0 then (partGo (lvl lv c) [] r).map (cur :: ·) else partGo (lvl lv c) (cur ++ [c]) r
def parted (t : L) : Option (List L) := partGo 0 [] t
def mapO {α β : Type} (f : α → Option β) : List α → Option (List β)
  | [] => some []
  | x :: r => match f x with
    | none => none
    | some y => (mapO f r).map (y :: ·)
theorem mapO_len {α β : Type} {f : α → Option β} : ∀ {xs : List α} {ys : List β}, mapO f xs = some ys → ys.length = xs.length
  | [], _, h => by cases h; rfl
  | x :: r, ys, h => by
    rw [mapO] at h
    split at h
    · cases h
    · obtain ⟨zs, h1, rfl⟩ := Option.map_eq_some_iff.mp h
      rw [List.length_cons, List.length_cons, mapO_len h1]
theorem mapO_get {α β : Type} {f : α → Option β} : ∀ {xs : List α} {ys : List β} {i : Nat} {x : α}, mapO f xs = some ys → xs[i]? = some x → ∃ y, f x = some y ∧ ys[i]? = some y
  | [], _, _, _, _, hx => by simp at hx
  | a :: r, ys, i, x, h, hx => by
    rw [mapO] at h
    split at h
    · cases h
    · rename_i y hy
      obtain ⟨zs, h1, rfl⟩ := Option.map_eq_some_iff.mp h
      cases i with
      | zero =>
        have e : a = x := by simpa using hx
        subst e
        exact ⟨y, hy, by simp⟩
      | succ i =>
        obtain ⟨z, h2, h3⟩ := mapO_get (i := i) h1 (by simpa using hx)
        exact ⟨z, h2, by simpa using h3⟩
theorem mapO_of {α β : Type} {f : α → Option β} {g : β → α} : ∀ {ys : List β}, (∀ y ∈ ys, f (g y) = some y) → mapO f (ys.map g) = some ys
  | [], _ => rfl
  | y :: r, h => by
    rw [List.map_cons, mapO, h y List.mem_cons_self]
    show (mapO f (r.map g)).map (y :: ·) = _
    rw [mapO_of fun z hz => h z (List.mem_cons_of_mem _ hz)]
    rfl
/-- what stands ahead of the first c -/
def ahead (c : Nat) (t : L) : L := t.takeWhile (fun x => x != c)
theorem ahead_free {c : Nat} : ∀ {t : L}, c ∉ ahead c t
  | [] => by simp [ahead]
  | a :: r => by
    unfold ahead
    rw [List.takeWhile_cons]
    split
    · rename_i h
      intro q
      rcases List.mem_cons.mp q with e | q
      · subst e; simp at h
      · exact ahead_free (t := r) q
    · simp
theorem ahead_cut {c : Nat} : ∀ {t : L}, c ∈ t → t = ahead c t ++ c :: t.drop ((ahead c t).length + 1)
  | a :: r, h => by
    unfold ahead
    rw [List.takeWhile_cons]
    by_cases e : a = c
    · subst e
      simp
    · have h2 : c ∈ r := by
        rcases List.mem_cons.mp h with z | z
        · exact absurd z.symm e
        · exact z
      have ih := ahead_cut h2
      have hne : (a != c) = true := by simpa using e
      rw [if_pos hne]
      show a :: r = a :: (ahead c r ++ c :: (a :: r).drop ((ahead c r).length + 1 + 1))
      rw [List.drop_succ_cons, ← ih]
theorem ahead_all {c : Nat} : ∀ {t : L}, c ∉ t → ahead c t = t
  | [], _ => rfl
  | a :: r, h => by
    unfold ahead
    rw [List.takeWhile_cons]
    have e : (a != c) = true := by
      rw [bne_iff_ne]
      intro z; subst z; exact h List.mem_cons_self
    rw [if_pos e]
    exact congrArg _ (ahead_all (t := r) fun q => h (List.mem_cons_of_mem _ q))
theorem ahead_app {c : Nat} {a b : L} (h : c ∉ a) : ahead c (a ++ c :: b) = a := by
  induction a with
  | nil => simp [ahead]
  | cons x r ih =>
    unfold ahead
    rw [List.cons_append, List.takeWhile_cons]
    have e : (x != c) = true := by
      rw [bne_iff_ne]
      intro z; subst z; exact h List.mem_cons_self
    rw [if_pos e]
    exact congrArg _ (ih fun q => h (List.mem_cons_of_mem _ q))
/-- text[len(word) + 1:-1] -/
def inner (t : L) : L := (t.take (t.length - 1)).drop ((ahead 91 t).length + 1)
def readExp : Nat → L → Option GE
  | 0, _ => none
  | m + 1, t => if t = wArg then some (.node wArg []) else if t.drop (t.length - 1) ≠ [93] then (readNum t).map GE.num else
    match parts (ahead 91 t) with
    | some (_ + 1) => (parted (inner t)).bind fun ws => (mapO (readExp m) ws).map fun as => GE.node (ahead 91 t) as
    | _ => none
def step3 (a b c : L) : Option GS :=
  if a = wCell then (readExp 5 b).bind fun x => (readExp 5 c).map fun y => .cell x y
  else if a = wSkip then (readExp 5 b).bind fun x => (readNum c).map fun y => .skip x y
  else (readExp 5 c).map fun x => .other a b x
def stepOf (ws : List L) : Option GS := if ws = [wWait] then some .wait else match ws with
  | [a, b, c] => step3 a b c
  | _ => none
theorem stepOf_3 (a b c : L) : stepOf [a, b, c] = step3 a b c := by
  unfold stepOf
  rw [if_neg (by simp)]
theorem stepOf_wait : stepOf [wWait] = some .wait := by
  unfold stepOf
  rw [if_pos rfl]
def readStep (t : L) : Option GS := (parted t).bind stepOf
def readHelper (t : L) : Option Helper :=
  if 58 ∈ t then
    if t.drop ((ahead 58 t).length + 1) = [] then some (ahead 58 t, []) else if (t.drop ((ahead 58 t).length + 1)).take 1 ≠ [32] then none
    else (mapO readStep (TL.spl [44, 32] 0 [] ((t.drop ((ahead 58 t).length + 1)).drop 1))).map fun ss => (ahead 58 t, ss)
  else none
def readRaw (t : L) : Option (List Helper) := if t = [] then some [] else mapO readHelper (TL.spl [59, 32] 0 [] t)
def readProg (t : L) : Option (List Helper) := (readRaw t).bind fun p => if isProg p = true then some p else none

/-! runs of figures -/
def runs (n : Nat) (t : L) : Prop := ∀ i m, (∀ k, k < m → ∃ d, t[i + k]? = some d ∧ isDig d = true) → m ≤ n
theorem runs.infix {n : Nat} {t u : L} (h : runs n t) (s : u <:+: t) : runs n u := by
  obtain ⟨x, y, e⟩ := s
  intro i m hk
  refine h (x.length + i) m fun k hkm => ?_
  obtain ⟨d, h1, h2⟩ := hk k hkm
  refine ⟨d, ?_, h2⟩
  have hl := (List.getElem?_eq_some_iff.mp h1).1
  rw [← e, List.append_assoc, List.getElem?_append_right (by omega), List.getElem?_append_left (by omega), ← h1]
  exact congrArg _ (by omega)
theorem runs.all {n : Nat} {t : L} (h : runs n t) (hd : ∀ c ∈ t, isDig c = true) : t.length ≤ n := by
  refine h 0 t.length fun k hk => ⟨t[k], ?_, hd _ (List.getElem_mem hk)⟩
  rw [Nat.zero_add]; exact List.getElem?_eq_getElem hk
theorem runs.nil {n : Nat} : runs n [] := fun i m h => by
  cases m with
  | zero => exact Nat.zero_le _
  | succ m =>
    obtain ⟨d, h1, _⟩ := h 0 (Nat.succ_pos _)
    simp at h1
theorem runs.cat {n : Nat} {a b : L} {c : Nat} (hc : isDig c = false) (ha : runs n a) (hb : runs n b) : runs n (a ++ c :: b) := by
  intro i m h
  by_cases h1 : i + m ≤ a.length
  · refine ha i m fun k hk => ?_
    obtain ⟨d, e, hd⟩ := h k hk
    rw [List.getElem?_append_left (by omega)] at e
    exact ⟨d, e, hd⟩
  · by_cases h2 : i ≤ a.length
    · exfalso
      obtain ⟨d, e, hd⟩ := h (a.length - i) (by omega)
      rw [List.getElem?_append_right (by omega), show i + (a.length - i) - a.length = 0 by omega] at e
      have e : c = d := by simpa using e
      subst e
      rw [hc] at hd; cases hd
    · refine hb (i - a.length - 1) m fun k hk => ?_
      obtain ⟨d, e, hd⟩ := h k hk
      rw [List.getElem?_append_right (by omega), show i + k - a.length = (i - a.length - 1 + k) + 1 by omega, List.getElem?_cons_succ] at e
      exact ⟨d, e, hd⟩
theorem runs.cons {n : Nat} {b : L} {c : Nat} (hc : isDig c = false) (hb : runs n b) : runs n (c :: b) := runs.cat (a := []) hc runs.nil hb
theorem runs.snoc {n : Nat} {a : L} {c : Nat} (hc : isDig c = false) (ha : runs n a) : runs n (a ++ [c]) := runs.cat (b := []) hc ha runs.nil
theorem runs.none {n : Nat} : ∀ {t : L}, (∀ c ∈ t, isDig c = false) → runs n t
  | [], _ => runs.nil
  | c :: r, h => runs.cons (h c List.mem_cons_self) (runs.none fun x hx => h x (List.mem_cons_of_mem _ hx))
theorem runs.short {n : Nat} {t : L} (h : t.length ≤ n) : runs n t := fun i m hk => by
  cases m with
  | zero => exact Nat.zero_le _
  | succ m =>
    obtain ⟨d, e, _⟩ := hk m (Nat.lt_succ_self _)
    have := (List.getElem?_eq_some_iff.mp e).1
    omega
theorem runs.app_none {n : Nat} {a b : L} (ha : ∀ c ∈ a, isDig c = false) (hb : runs n b) : runs n (a ++ b) := by
  induction a with
  | nil => exact hb
  | cons c r ih => exact runs.cons (ha c List.mem_cons_self) (ih fun x hx => ha x (List.mem_cons_of_mem _ hx))
theorem runs.join {n : Nat} {sep : L} (hs : ∀ c ∈ sep, isDig c = false) (hne : sep ≠ []) : ∀ {xs : List L}, (∀ x ∈ xs, runs n x) → runs n (joinL sep xs)
  | [], _ => runs.nil
  | [x], h => h x List.mem_cons_self
  | x :: y :: r, h => by
    have ih := runs.join hs hne (xs := y :: r) fun z hz => h z (List.mem_cons_of_mem _ hz)
    show runs n (x ++ sep ++ joinL sep (y :: r))
    cases sep with
    | nil => exact absurd rfl hne
    | cons c s =>
      rw [List.append_assoc]
      exact runs.cat (hs c List.mem_cons_self) (h x List.mem_cons_self) (runs.app_none (fun z hz => hs z (List.mem_cons_of_mem _ hz)) ih)
/-! parts are infixes -/
theorem partGo_infix : ∀ {r : L} {lv : Int} {cur : L} {ws : List L}, partGo lv cur r = some ws → ∀ x ∈ ws, x <:+: cur ++ r
  | [], lv, cur, ws, h, x, hx => by
    cases h
    rw [List.mem_singleton.mp hx, List.append_nil]
    exact List.infix_refl _
  | c :: r, lv, cur, ws, h, x, hx => by
    rw [partGo] at h
    split at h
    · cases h
    · split at h
      · obtain ⟨zs, h1, rfl⟩ := Option.map_eq_some_iff.mp h
        rcases List.mem_cons.mp hx with e | hx
        · subst e
          exact (List.prefix_append _ _).isInfix
        · have := partGo_infix h1 x hx
          rw [List.nil_append] at this
          exact this.trans (((List.suffix_cons c r).trans (List.suffix_append cur (c :: r))).isInfix)
      · have := partGo_infix h x hx
        rw [List.append_assoc] at this
        exact this
theorem parted_infix {t : L} {ws : List L} (h : parted t = some ws) : ∀ x ∈ ws, x <:+: t := fun x hx => by
  have := partGo_infix h x hx
  rwa [List.nil_append] at this
theorem spl_infix (sep : L) : ∀ {r : L} {k : Nat} {cur : L}, k = 0 ∨ cur = [] → ∀ x ∈ TL.spl sep k cur r, x <:+: cur ++ r := by
  intro r
  induction r with
  | nil =>
    intro k cur _ x hx
    rw [TL.spl_nil] at hx
    rw [List.mem_singleton.mp hx, List.append_nil]
    exact List.infix_refl _
  | cons c r ih =>
    intro k cur hk x hx
    cases k with
    | zero =>
      rw [TL.spl] at hx
      split at hx
      · rcases List.mem_cons.mp hx with e | hx
        · rw [e]; exact (List.prefix_append _ _).isInfix
        · have h := ih (.inr rfl) x hx
          rw [List.nil_append] at h
          exact h.trans (((List.suffix_cons c r).trans (List.suffix_append cur (c :: r))).isInfix)
      · rw [show cur ++ c :: r = (cur ++ [c]) ++ r by simp]
        exact ih (.inl rfl) x hx
    | succ k =>
      rw [TL.spl] at hx
      have e : cur = [] := by
        rcases hk with h | h
        · omega
        · exact h
      subst e
      have h := ih (.inr rfl) x hx
      rw [List.nil_append] at h ⊢
      exact h.trans (List.suffix_cons c r).isInfix
theorem split_infix {sep t : L} : ∀ x ∈ TL.spl sep 0 [] t, x <:+: t := fun x hx => by
  have := spl_infix sep (.inl rfl) x hx
  rwa [List.nil_append] at this
end FG
/-! ### MS: what is written is read back -/
namespace FG
open PySem PySem.NumText L2
/-- a sign of a step's text -/
def sgn (c : Nat) : Bool := small c || isDig c || decide (c = 45) || decide (c = 91) || decide (c = 93) || decide (c = 32)
/-- a sign of a word or number -/
def sgp (c : Nat) : Bool := small c || isDig c || decide (c = 45)
theorem sgp_sgn {c : Nat} (h : sgp c = true) : sgn c = true := by
  unfold sgn
  unfold sgp at h
  rw [h]; rfl
theorem small_of {c : Nat} (h : small c = true) : 97 ≤ c ∧ c ≤ 122 := by
  unfold small at h
  simpa only [Bool.and_eq_true, decide_eq_true_eq] using h
theorem dig_of {c : Nat} (h : isDig c = true) : 48 ≤ c ∧ c ≤ 57 := by
  unfold isDig at h
  simpa only [Bool.and_eq_true, decide_eq_true_eq] using h
theorem dig_is {c : Nat} (h : 48 ≤ c ∧ c ≤ 57) : isDig c = true := by
  unfold isDig
  rw [decide_eq_true h.1, decide_eq_true h.2]; rfl
theorem small_sgp {c : Nat} (h : small c = true) : sgp c = true := by unfold sgp; rw [h]; rfl
theorem sgp_ne {c : Nat} (h : sgp c = true) : c ≠ 32 ∧ c ≠ 91 ∧ c ≠ 93 ∧ c ≠ 44 ∧ c ≠ 58 ∧ c ≠ 59 := by
  unfold sgp at h
  simp only [Bool.or_eq_true, decide_eq_true_eq] at h
  rcases h with (h | h) | h
  · have := small_of h; omega
  · have := dig_of h; omega
  · omega
theorem sgn_ne {c : Nat} (h : sgn c = true) : c ≠ 44 ∧ c ≠ 58 ∧ c ≠ 59 := by
  unfold sgn at h
  simp only [Bool.or_eq_true, decide_eq_true_eq] at h
  rcases h with ((((h | h) | h) | h) | h) | h
  · have := small_of h; omega
  · have := dig_of h; omega
  all_goals omega
theorem word_small {w : L} (h : w ∈ [wArg, wCell, wAdd, wLess, wLeast, wWait, wSkip, wGive, wFork, wCall]) : ∀ c ∈ w, small c = true := by
  have : ∀ w ∈ [wArg, wCell, wAdd, wLess, wLeast, wWait, wSkip, wGive, wFork, wCall], ∀ c ∈ w, small c = true := by decide
  exact this w h
theorem dig_cases (i : Int) : (∃ n : Nat, i = (n : Int) ∧ dig i = nd n) ∨ ∃ n : Nat, i = -((n + 1 : Nat) : Int) ∧ dig i = 45 :: nd (n + 1) := by
  rcases Int.lt_or_le i 0 with h0 | h0
  · obtain ⟨n, rfl⟩ : ∃ n : Nat, i = -((n + 1 : Nat) : Int) := ⟨i.natAbs - 1, by omega⟩
    exact .inr ⟨n, rfl, dig_neg n⟩
  · obtain ⟨n, rfl⟩ : ∃ n : Nat, i = (n : Int) := ⟨i.toNat, by omega⟩
    exact .inl ⟨n, rfl, dig_nat n⟩
theorem nd_dig {n : Nat} : ∀ c ∈ nd n, isDig c = true := fun c hc => dig_is (nd_digits n c hc)
theorem dig_sgp (i : Int) : ∀ c ∈ dig i, sgp c = true := by
  intro c hc
  rcases dig_cases i with ⟨n, _, e⟩ | ⟨n, _, e⟩
  · rw [e] at hc
    unfold sgp
    rw [nd_dig c hc, Bool.or_true]; rfl
  · rw [e] at hc
    unfold sgp
    rcases List.mem_cons.mp hc with h | h
    · rw [decide_eq_true h, Bool.or_true]
    · rw [nd_dig c h, Bool.or_true]; rfl
theorem dig_nosmall (i : Int) : ∀ c ∈ dig i, c = 45 ∨ isDig c = true := by
  intro c hc
  rcases dig_cases i with ⟨n, _, e⟩ | ⟨n, _, e⟩
  · rw [e] at hc
    exact .inr (nd_dig c hc)
  · rw [e] at hc
    rcases List.mem_cons.mp hc with h | h
    · exact .inl h
    · exact .inr (nd_dig c h)
theorem dig_ne (i : Int) : dig i ≠ [] := by
  rcases dig_cases i with ⟨n, _, e⟩ | ⟨n, _, e⟩
  · rw [e]; exact nd_ne n
  · rw [e]; simp
theorem readNum_dig (i : Int) : readNum (dig i) = some i := by
  rcases dig_cases i with ⟨n, rfl, e⟩ | ⟨n, rfl, e⟩
  · rw [e]
    have h45 : (nd n).take 1 ≠ [45] := by
      intro h
      have : 45 ∈ nd n := List.mem_of_mem_take (i := 1) (by rw [h]; simp)
      have := dig_of (nd_dig _ this)
      omega
    have ef : figs (nd n) = nd n := by unfold figs; rw [if_neg h45]
    unfold readNum
    rw [ef, if_neg (nd_ne n), if_neg (by rw [List.all_eq_true.mpr nd_dig]; simp), if_neg, if_neg h45, nd_val]
    rintro ⟨h1, h2⟩
    cases hn : nd n with
    | nil => exact nd_ne n hn
    | cons c r =>
      rw [hn] at h1 h2
      have : c = 48 := by simpa using h1
      subst this
      exact h2 (by rw [nd_head n r hn])
  · rw [e]
    have h45 : (45 :: nd (n + 1)).take 1 = [45] := rfl
    have ef : figs (45 :: nd (n + 1)) = nd (n + 1) := by unfold figs; rw [if_pos h45]; rfl
    unfold readNum
    rw [ef, if_neg (nd_ne _), if_neg (by rw [List.all_eq_true.mpr nd_dig]; simp), if_neg, if_pos h45, nd_val]
    rintro ⟨h1, _⟩
    cases hn : nd (n + 1) with
    | nil => exact nd_ne _ hn
    | cons c r =>
      rw [hn] at h1
      have : c = 48 := by simpa using h1
      subst this
      have hr := nd_head (n + 1) r hn
      have hv := nd_val (n + 1)
      rw [hn, hr] at hv
      simp [digitsVal] at hv
theorem small_nodig {c : Nat} (h : small c = true) : isDig c = false := by
  have := small_of h
  cases e : isDig c with
  | false => rfl
  | true => have := dig_of e; omega
/-! levels -/
theorem lvl_plain {lv : Int} {c : Nat} (h1 : c ≠ 91) (h2 : c ≠ 93) : lvl lv c = lv := by unfold lvl; rw [if_neg h1, if_neg h2]
theorem go_one {lv : Int} {cur r : L} {c : Nat} (h0 : 0 ≤ lvl lv c) (h : ¬ (c = 32 ∧ lvl lv c = 0)) : partGo lv cur (c :: r) = partGo (lvl lv c) (cur ++ [c]) r := by
  rw [partGo, if_neg (by omega), if_neg h]
theorem go_plain {lv : Int} (h0 : 0 ≤ lv) : ∀ {x : L} {cur r : L}, (∀ c ∈ x, sgp c = true) → partGo lv cur (x ++ r) = partGo lv (cur ++ x) r
  | [], cur, r, _ => by rw [List.append_nil]; rfl
  | c :: x, cur, r, h => by
    obtain ⟨h1, h2, h3, _⟩ := sgp_ne (h c List.mem_cons_self)
    have e := lvl_plain (lv := lv) h2 h3
    rw [List.cons_append, go_one (by rw [e]; exact h0) (fun q => h1 q.1), e, go_plain h0 fun y hy => h y (List.mem_cons_of_mem _ hy), List.append_assoc]
    rfl
/-- passed over as one -/
def One (x : L) : Prop := ∀ (lv : Int) (cur r : L), 0 ≤ lv → partGo lv cur (x ++ r) = partGo lv (cur ++ x) r
theorem One.plain {x : L} (h : ∀ c ∈ x, sgp c = true) : One x := fun _ _ _ h0 => go_plain h0 h
theorem go_join : ∀ {xs : List L} {lv : Int} {cur r : L}, (∀ x ∈ xs, One x) → 1 ≤ lv → partGo lv cur (joinL [32] xs ++ r) = partGo lv (cur ++ joinL [32] xs) r
  | [], lv, cur, r, _, _ => by show partGo lv cur r = partGo lv (cur ++ []) r; rw [List.append_nil]
  | [x], lv, cur, r, h, h0 => h x List.mem_cons_self lv cur r (by omega)
  | x :: y :: t, lv, cur, r, h, h0 => by
    have e : lvl lv 32 = lv := lvl_plain (by decide) (by decide)
    show partGo lv cur (x ++ [32] ++ joinL [32] (y :: t) ++ r) = partGo lv (cur ++ (x ++ [32] ++ joinL [32] (y :: t))) r
    rw [List.append_assoc, List.append_assoc, h x List.mem_cons_self lv cur _ (by omega), List.cons_append, List.nil_append, go_one (by rw [e]; omega) (by rw [e]; omega), e, go_join (fun z hz => h z (List.mem_cons_of_mem _ hz)) h0]
    simp only [List.append_assoc]
mutual
theorem sh_one : ∀ {m : Nat} {e : GE}, e.ok m = true → One (sh e)
  | 0, _, h => by simp [GE.ok] at h
  | m + 1, .num i, _ => One.plain (dig_sgp i)
  | m + 1, .node w as, h => by
    rw [GE.ok, Bool.and_eq_true, decide_eq_true_eq] at h
    have hw : One w := One.plain fun c hc => small_sgp (word_small (parts_word h.1).1 c hc)
    cases as with
    | nil => exact hw
    | cons a r =>
      have hs := shs_one (as := a :: r) h.2
      intro lv cur t h0
      have e1 : lvl lv 91 = lv + 1 := by unfold lvl; rw [if_pos rfl]
      have e2 : lvl (lv + 1) 93 = lv := by unfold lvl; rw [if_neg (by decide), if_pos rfl]; omega
      rw [sh, List.append_assoc, List.append_assoc, List.append_assoc, hw lv cur _ h0, List.cons_append, List.nil_append, go_one (by rw [e1]; omega) (fun q => by cases q.1), e1, go_join hs (by omega), List.cons_append, List.nil_append, go_one (by rw [e2]; exact h0) (fun q => by cases q.1), e2]
      simp only [List.append_assoc]
theorem shs_one : ∀ {m : Nat} {as : List GE}, GE.oks m as = true → ∀ x ∈ shs as, One x
  | _, [], _ => fun x hx => by simp [shs] at hx
  | m, e :: r, h => fun x hx => by
    rw [GE.oks, Bool.and_eq_true] at h
    rw [shs] at hx
    rcases List.mem_cons.mp hx with rfl | hx
    · exact sh_one h.1
    · exact shs_one h.2 x hx
end
theorem parted_join : ∀ {xs : List L}, xs ≠ [] → (∀ x ∈ xs, One x) → parted (joinL [32] xs) = some xs
  | [], h, _ => absurd rfl h
  | [x], _, h => by
    have := h x List.mem_cons_self 0 [] [] (Int.le_refl _)
    rw [List.append_nil, List.nil_append] at this
    exact this
  | x :: y :: t, _, h => by
    have e : lvl 0 32 = 0 := lvl_plain (by decide) (by decide)
    have ih := parted_join (xs := y :: t) (by simp) fun z hz => h z (List.mem_cons_of_mem _ hz)
    show partGo 0 [] (x ++ [32] ++ joinL [32] (y :: t)) = _
    rw [List.append_assoc, h x List.mem_cons_self 0 [] _ (Int.le_refl _), List.cons_append, List.nil_append, List.nil_append, partGo, e, if_neg (by omega), if_pos ⟨rfl, rfl⟩]
    unfold parted at ih
    rw [ih]; rfl
theorem parts_zero {w : L} (h : parts w = some 0) : w = wArg := by
  unfold parts at h
  split at h
  · assumption
  split at h
  · cases h
  split at h
  · cases h
  split at h
  · cases h
  split at h
  · cases h
  · cases h
theorem readExp_sh : ∀ (m : Nat) (e : GE), e.ok m = true → readExp m (sh e) = some e
  | 0, _, h => by simp [GE.ok] at h
  | m + 1, .num i, _ => by
    have h1 : dig i ≠ wArg := by
      intro h
      have h97 : 97 ∈ dig i := by rw [h]; decide
      rcases dig_nosmall i 97 h97 with z | z
      · cases z
      · revert z; decide
    have h2 : (dig i).drop ((dig i).length - 1) ≠ [93] := by
      intro h
      have h93 : 93 ∈ dig i := List.mem_of_mem_drop (i := (dig i).length - 1) (by rw [h]; simp)
      rcases dig_nosmall i 93 h93 with z | z
      · cases z
      · revert z; decide
    rw [sh, readExp, if_neg h1, if_pos h2, readNum_dig]; rfl
  | m + 1, .node w as, h => by
    rw [GE.ok, Bool.and_eq_true, decide_eq_true_eq] at h
    have hw := word_small (parts_word h.1).1
    cases as with
    | nil =>
      have e := parts_zero h.1
      subst e
      rw [sh, readExp, if_pos rfl]
    | cons a r =>
      have hs := shs_one (as := a :: r) h.2
      have h91 : 91 ∉ w := fun q => by have := small_of (hw _ q); omega
      have et : sh (.node w (a :: r)) = (w ++ 91 :: joinL [32] (shs (a :: r))) ++ [93] := by rw [sh]; simp
      have ea : ahead 91 (sh (.node w (a :: r))) = w := by
        rw [et, List.append_assoc, List.cons_append]
        exact ahead_app h91
      have hn : sh (.node w (a :: r)) ≠ wArg := by
        intro z
        have : (91 : Nat) ∈ wArg := by rw [← z, et]; simp
        revert this; decide
      have hd : (sh (.node w (a :: r))).drop ((sh (.node w (a :: r))).length - 1) = [93] := by
        rw [et, List.length_append, List.length_singleton, Nat.add_sub_cancel, List.drop_left]
      have ei : inner (sh (.node w (a :: r))) = joinL [32] (shs (a :: r)) := by
        unfold inner
        rw [ea, et, List.length_append, List.length_singleton, Nat.add_sub_cancel, List.take_left]
        have : w ++ 91 :: joinL [32] (shs (a :: r)) = (w ++ [91]) ++ joinL [32] (shs (a :: r)) := by simp
        rw [this]
        exact List.drop_left' (by simp)
      have hp : parts w = some (r.length + 1) := h.1
      rw [readExp, if_neg hn, if_neg (by rw [hd]; simp), ea, hp]
      show (parted (inner (sh (.node w (a :: r))))).bind (fun ws => (mapO (readExp m) ws).map fun as => GE.node w as) = _
      rw [ei, parted_join (by simp [shs]) hs]
      show (mapO (readExp m) (shs (a :: r))).map (fun as => GE.node w as) = _
      rw [shs_map]
      have ho : ∀ y ∈ a :: r, y.ok m = true := by
        have := h.2
        rw [GE.oks_all] at this
        exact List.all_eq_true.mp this
      rw [mapO_of fun y hy => readExp_sh m y (ho y hy)]
      rfl
theorem ps_one {names : List L} {b : Int} {s : GS} (h : s.ok names b = true) : ∀ x ∈ s.ps.map ptS, One x := by
  have word : ∀ {w : L}, w ∈ [wArg, wCell, wAdd, wLess, wLeast, wWait, wSkip, wGive, wFork, wCall] → One w := fun hw => One.plain fun c hc => small_sgp (word_small hw c hc)
  cases s with
  | wait =>
    intro x hx
    rw [List.mem_singleton.mp hx]
    exact word (w := wWait) (by simp)
  | cell a c =>
    have h : (a.ok 5 && c.ok 5) = true := h
    rw [Bool.and_eq_true] at h
    intro x hx
    simp only [GS.ps, List.map_cons, List.map_nil, ptS, List.mem_cons, List.not_mem_nil, or_false] at hx
    rcases hx with rfl | rfl | rfl
    · exact word (by simp)
    · exact sh_one h.1
    · exact sh_one h.2
  | skip e m =>
    have h : (e.ok 5 && (decide (1 ≤ m) && decide (m ≤ b))) = true := h
    rw [Bool.and_eq_true] at h
    intro x hx
    simp only [GS.ps, List.map_cons, List.map_nil, ptS, List.mem_cons, List.not_mem_nil, or_false] at hx
    rcases hx with rfl | rfl | rfl
    · exact word (by simp)
    · exact sh_one h.1
    · exact sh_one (m := 1) rfl
  | other w n e =>
    have h : ((decide (w = wGive) || decide (w = wFork) || decide (w = wCall)) && isName n && e.ok 5 && (decide (w = wGive) || decide (n ∈ names))) = true := h
    simp only [Bool.and_eq_true, Bool.or_eq_true, decide_eq_true_eq] at h
    obtain ⟨⟨⟨h1, h2⟩, h3⟩, _⟩ := h
    intro x hx
    simp only [GS.ps, List.map_cons, List.map_nil, ptS, List.mem_cons, List.not_mem_nil, or_false] at hx
    rcases hx with rfl | rfl | rfl
    · refine word ?_
      rcases h1 with (h1 | h1) | h1 <;> subst h1 <;> simp
    · unfold isName at h2
      simp only [Bool.and_eq_true, List.all_eq_true] at h2
      exact One.plain fun c hc => small_sgp (h2.2 c hc)
    · exact sh_one h3
theorem parted_step {names : List L} {b : Int} {s : GS} (h : s.ok names b = true) : parted (shStep s) = some (s.ps.map ptS) := by
  rw [ps_sh]
  exact parted_join (by cases s <;> simp [GS.ps]) (ps_one h)
theorem readStep_sh {names : List L} {b : Int} {s : GS} (h : s.ok names b = true) : readStep (shStep s) = some s := by
  unfold readStep
  rw [parted_step h]
  cases s with
  | wait => exact stepOf_wait
  | cell a c =>
    have h : (a.ok 5 && c.ok 5) = true := h
    rw [Bool.and_eq_true] at h
    show stepOf [wCell, sh a, sh c] = _
    rw [stepOf_3]
    unfold step3
    rw [if_pos rfl, readExp_sh 5 a h.1, readExp_sh 5 c h.2]; rfl
  | skip e m =>
    have h : (e.ok 5 && (decide (1 ≤ m) && decide (m ≤ b))) = true := h
    rw [Bool.and_eq_true] at h
    show stepOf [wSkip, sh e, sh (.num m)] = _
    rw [stepOf_3]
    unfold step3
    rw [if_neg (by decide), if_pos rfl, readExp_sh 5 e h.1, sh, readNum_dig]; rfl
  | other w n e =>
    have h : ((decide (w = wGive) || decide (w = wFork) || decide (w = wCall)) && isName n && e.ok 5 && (decide (w = wGive) || decide (n ∈ names))) = true := h
    simp only [Bool.and_eq_true, Bool.or_eq_true, decide_eq_true_eq] at h
    obtain ⟨⟨⟨h1, h2⟩, h3⟩, _⟩ := h
    show stepOf [w, n, sh e] = _
    rw [stepOf_3]
    unfold step3
    rw [if_neg, if_neg, readExp_sh 5 e h3]
    · rfl
    · rcases h1 with (h1 | h1) | h1 <;> subst h1 <;> decide
    · rcases h1 with (h1 | h1) | h1 <;> subst h1 <;> decide
mutual
theorem sh_sgn : ∀ {m : Nat} {e : GE}, e.ok m = true → ∀ c ∈ sh e, sgn c = true
  | 0, _, h => by simp [GE.ok] at h
  | m + 1, .num i, _ => fun c hc => sgp_sgn (dig_sgp i c hc)
  | m + 1, .node w as, h => by
    rw [GE.ok, Bool.and_eq_true, decide_eq_true_eq] at h
    have hw : ∀ c ∈ w, sgn c = true := fun c hc => sgp_sgn (small_sgp (word_small (parts_word h.1).1 c hc))
    cases as with
    | nil => exact hw
    | cons a r =>
      have hs := shs_sgn (as := a :: r) h.2
      intro c hc
      rw [sh] at hc
      simp only [List.mem_append, List.mem_singleton] at hc
      rcases hc with ((hc | rfl) | hc) | rfl
      · exact hw c hc
      · decide
      · exact hs c hc
      · decide
theorem shs_sgn : ∀ {m : Nat} {as : List GE}, GE.oks m as = true → ∀ c ∈ joinL [32] (shs as), sgn c = true
  | _, [], _ => fun c hc => by simp [shs, joinL] at hc
  | m, [e], h => fun c hc => by
    rw [GE.oks, Bool.and_eq_true] at h
    exact sh_sgn h.1 c hc
  | m, e :: f :: r, h => fun c hc => by
    rw [GE.oks, Bool.and_eq_true] at h
    have hc : c ∈ sh e ++ [32] ++ joinL [32] (shs (f :: r)) := hc
    simp only [List.mem_append, List.mem_singleton] at hc
    rcases hc with (hc | rfl) | hc
    · exact sh_sgn h.1 c hc
    · decide
    · exact shs_sgn h.2 c hc
end
theorem mem_joinL {sep : L} {c : Nat} : ∀ {xs : List L}, c ∈ joinL sep xs → c ∈ sep ∨ ∃ x ∈ xs, c ∈ x
  | [], h => by simp [joinL] at h
  | [x], h => .inr ⟨x, List.mem_cons_self, h⟩
  | x :: y :: r, h => by
    have h : c ∈ x ++ sep ++ joinL sep (y :: r) := h
    simp only [List.mem_append] at h
    rcases h with (h | h) | h
    · exact .inr ⟨x, List.mem_cons_self, h⟩
    · exact .inl h
    · rcases mem_joinL h with h | ⟨z, hz, h⟩
      · exact .inl h
      · exact .inr ⟨z, List.mem_cons_of_mem _ hz, h⟩
theorem step_sgn {names : List L} {b : Int} {s : GS} (h : s.ok names b = true) : ∀ c ∈ shStep s, sgn c = true := by
  have word : ∀ {w : L}, w ∈ [wArg, wCell, wAdd, wLess, wLeast, wWait, wSkip, wGive, wFork, wCall] → ∀ c ∈ w, sgn c = true := fun hw c hc => sgp_sgn (small_sgp (word_small hw c hc))
  cases s with
  | wait => exact word (w := wWait) (by simp)
  | cell a d =>
    have h : (a.ok 5 && d.ok 5) = true := h
    rw [Bool.and_eq_true] at h
    intro c hc
    have hc : c ∈ wCell ++ [32] ++ sh a ++ [32] ++ sh d := hc
    simp only [List.mem_append, List.mem_singleton] at hc
    rcases hc with (((hc | rfl) | hc) | rfl) | hc
    · exact word (by simp) c hc
    · decide
    · exact sh_sgn h.1 c hc
    · decide
    · exact sh_sgn h.2 c hc
  | skip e m =>
    have h : (e.ok 5 && (decide (1 ≤ m) && decide (m ≤ b))) = true := h
    rw [Bool.and_eq_true] at h
    intro c hc
    have hc : c ∈ wSkip ++ [32] ++ sh e ++ [32] ++ dig m := hc
    simp only [List.mem_append, List.mem_singleton] at hc
    rcases hc with (((hc | rfl) | hc) | rfl) | hc
    · exact word (by simp) c hc
    · decide
    · exact sh_sgn h.1 c hc
    · decide
    · exact sgp_sgn (dig_sgp m c hc)
  | other w n e =>
    have h : ((decide (w = wGive) || decide (w = wFork) || decide (w = wCall)) && isName n && e.ok 5 && (decide (w = wGive) || decide (n ∈ names))) = true := h
    simp only [Bool.and_eq_true, Bool.or_eq_true, decide_eq_true_eq] at h
    obtain ⟨⟨⟨h1, h2⟩, h3⟩, _⟩ := h
    intro c hc
    have hc : c ∈ w ++ [32] ++ n ++ [32] ++ sh e := hc
    simp only [List.mem_append, List.mem_singleton] at hc
    rcases hc with (((hc | rfl) | hc) | rfl) | hc
    · refine word ?_ c hc
      rcases h1 with (h1 | h1) | h1 <;> subst h1 <;> simp
    · decide
    · unfold isName at h2
      simp only [Bool.and_eq_true, List.all_eq_true] at h2
      exact sgp_sgn (small_sgp (h2.2 c hc))
    · decide
    · exact sh_sgn h3 c hc
theorem joinL_TL (sep : L) : ∀ xs : List L, TL.joinL sep xs = joinL sep xs
  | [] => rfl
  | [x] => rfl
  | x :: y :: r => by
    have h := joinL_TL sep (y :: r)
    show x ++ (sep ++ TL.joinL sep (y :: r)) = x ++ sep ++ joinL sep (y :: r)
    rw [h, List.append_assoc]
theorem spl_joinL {c : Nat} {sep : L} {xs : List L} (hne : xs ≠ []) (h : ∀ x ∈ xs, c ∉ x) : TL.spl (c :: sep) 0 [] (joinL (c :: sep) xs) = xs := by
  rw [← joinL_TL]
  exact TL.spl_join hne h
theorem readHelper_sh {names : List L} {h : Helper} (hn : isName h.1 = true) (ho : stepsOk names h.2 = true) : readHelper (shHelper h) = some h := by
  obtain ⟨n, ss⟩ := h
  have hn' : ∀ c ∈ n, small c = true := by
    have hn : isName n = true := hn
    unfold isName at hn
    simp only [Bool.and_eq_true, List.all_eq_true] at hn
    exact hn.2
  have h58 : 58 ∉ n := fun q => by have := small_of (hn' _ q); omega
  cases ss with
  | nil =>
    have e : ahead 58 (n ++ [58]) = n := ahead_app h58
    show readHelper (n ++ [58]) = some (n, [])
    unfold readHelper
    rw [if_pos (by simp), e, if_pos]
    rw [show n.length + 1 = (n ++ [58]).length by simp, List.drop_length]
  | cons s r =>
    generalize hT : joinL [44, 32] ((s :: r).map shStep) = T
    have et : shHelper (n, s :: r) = n ++ 58 :: 32 :: T := by
      show n ++ [58, 32] ++ joinL [44, 32] ((s :: r).map shStep) = _
      rw [hT]; simp
    have e : ahead 58 (n ++ 58 :: 32 :: T) = n := ahead_app h58
    have ed : (n ++ 58 :: 32 :: T).drop (n.length + 1) = 32 :: T := by
      rw [show n ++ 58 :: 32 :: T = (n ++ [58]) ++ 32 :: T by simp]
      exact List.drop_left' (by simp)
    rw [et]
    unfold readHelper
    rw [if_pos (by simp), e, ed, if_neg (by simp), if_neg (by simp)]
    show (mapO readStep (TL.spl [44, 32] 0 [] T)).map (fun ss => (n, ss)) = _
    rw [← hT, spl_joinL (by simp) fun x hx q => ?_, mapO_of fun y hy => ?_]
    · rfl
    · obtain ⟨b, hb⟩ := steps_mem ho y hy
      exact readStep_sh hb
    · obtain ⟨y, hy, rfl⟩ := List.mem_map.mp hx
      obtain ⟨b, hb⟩ := steps_mem ho y hy
      exact (sgn_ne (step_sgn hb _ q)).1 rfl
theorem helper_59 {names : List L} {h : Helper} (hn : isName h.1 = true) (ho : stepsOk names h.2 = true) : 59 ∉ shHelper h := by
  obtain ⟨n, ss⟩ := h
  have hn' : 59 ∉ n := by
    have hn : isName n = true := hn
    unfold isName at hn
    simp only [Bool.and_eq_true, List.all_eq_true] at hn
    intro q
    have := small_of (hn.2 _ q)
    omega
  cases ss with
  | nil =>
    show 59 ∉ n ++ [58]
    simp [hn']
  | cons s r =>
    show 59 ∉ n ++ [58, 32] ++ joinL [44, 32] ((s :: r).map shStep)
    intro q
    simp only [List.mem_append] at q
    rcases q with (q | q) | q
    · exact hn' q
    · simp at q
    · rcases mem_joinL q with q | ⟨x, hx, q⟩
      · simp at q
      · obtain ⟨y, hy, rfl⟩ := List.mem_map.mp hx
        obtain ⟨b, hb⟩ := steps_mem ho y hy
        exact (sgn_ne (step_sgn hb _ q)).2.2 rfl
theorem shHelper_ne (h : Helper) : shHelper h ≠ [] := by
  obtain ⟨n, ss⟩ := h
  cases ss with
  | nil => show n ++ [58] ≠ []; simp
  | cons s r => show n ++ [58, 32] ++ _ ≠ []; simp
theorem readProg_sh {p : List Helper} (h : isProg p = true) : readProg (shProg p) = some p := by
  have hp := prog_parts h
  have e : readRaw (shProg p) = some p := by
    cases p with
    | nil => rfl
    | cons a r =>
      have hne : shProg (a :: r) ≠ [] := joinL_ne _ (by simp) fun x hx => by
        obtain ⟨y, hy, rfl⟩ := List.mem_map.mp hx
        exact shHelper_ne y
      unfold readRaw
      rw [if_neg hne]
      unfold shProg
      rw [spl_joinL (by simp) fun x hx => ?_, mapO_of fun y hy => readHelper_sh (hp y hy).1 (hp y hy).2]
      obtain ⟨y, hy, rfl⟩ := List.mem_map.mp hx
      exact helper_59 (hp y hy).1 (hp y hy).2
  unfold readProg
  rw [e]
  show (if isProg p = true then some p else none) = some p
  rw [if_pos h]
/-! runs of figures in what is written -/
mutual
theorem sh_runs : ∀ {m : Nat} {e : GE}, e.ok m = true → e.tiny → runs 3999 (sh e)
  | 0, _, h, _ => by simp [GE.ok] at h
  | m + 1, .num i, _, t => runs.short (Nat.le_trans (dig_len t) (by decide))
  | m + 1, .node w as, h, t => by
    rw [GE.ok, Bool.and_eq_true, decide_eq_true_eq] at h
    have hw : ∀ c ∈ w, isDig c = false := fun c hc => small_nodig (word_small (parts_word h.1).1 c hc)
    cases as with
    | nil => exact runs.none hw
    | cons a r =>
      have hs := shs_runs (as := a :: r) h.2 t
      rw [sh, List.append_assoc, List.append_assoc]
      exact runs.app_none hw (runs.cons (by decide) (runs.snoc (by decide) (runs.join (by decide) (by decide) hs)))
theorem shs_runs : ∀ {m : Nat} {as : List GE}, GE.oks m as = true → GE.tinys as → ∀ x ∈ shs as, runs 3999 x
  | _, [], _, _ => fun x hx => by simp [shs] at hx
  | m, e :: r, h, t => fun x hx => by
    rw [GE.oks, Bool.and_eq_true] at h
    rw [shs] at hx
    rcases List.mem_cons.mp hx with rfl | hx
    · exact sh_runs h.1 t.1
    · exact shs_runs h.2 t.2 x hx
end
theorem step_runs {names : List L} {b : Int} {s : GS} (h : s.ok names b = true) (t : s.tiny) : runs 3999 (shStep s) := by
  have word : ∀ {w : L}, w ∈ [wArg, wCell, wAdd, wLess, wLeast, wWait, wSkip, wGive, wFork, wCall] → runs 3999 w := fun hw => runs.none fun c hc => small_nodig (word_small hw c hc)
  rw [ps_sh]
  refine runs.join (by decide) (by decide) fun x hx => ?_
  cases s with
  | wait =>
    rw [List.mem_singleton.mp hx]
    exact word (w := wWait) (by simp)
  | cell a c =>
    have h : (a.ok 5 && c.ok 5) = true := h
    rw [Bool.and_eq_true] at h
    simp only [GS.ps, List.map_cons, List.map_nil, ptS, List.mem_cons, List.not_mem_nil, or_false] at hx
    rcases hx with rfl | rfl | rfl
    · exact word (by simp)
    · exact sh_runs h.1 t.1
    · exact sh_runs h.2 t.2
  | skip e m =>
    have h : (e.ok 5 && (decide (1 ≤ m) && decide (m ≤ b))) = true := h
    rw [Bool.and_eq_true] at h
    simp only [GS.ps, List.map_cons, List.map_nil, ptS, List.mem_cons, List.not_mem_nil, or_false] at hx
    rcases hx with rfl | rfl | rfl
    · exact word (by simp)
    · exact sh_runs h.1 t.1
    · exact sh_runs (m := 1) rfl t.2
  | other w n e =>
    have h : ((decide (w = wGive) || decide (w = wFork) || decide (w = wCall)) && isName n && e.ok 5 && (decide (w = wGive) || decide (n ∈ names))) = true := h
    simp only [Bool.and_eq_true, Bool.or_eq_true, decide_eq_true_eq] at h
    obtain ⟨⟨⟨h1, h2⟩, h3⟩, _⟩ := h
    simp only [GS.ps, List.map_cons, List.map_nil, ptS, List.mem_cons, List.not_mem_nil, or_false] at hx
    rcases hx with rfl | rfl | rfl
    · refine word ?_
      rcases h1 with (h1 | h1) | h1 <;> subst h1 <;> simp
    · unfold isName at h2
      simp only [Bool.and_eq_true, List.all_eq_true] at h2
      exact runs.none fun c hc => small_nodig (h2.2 c hc)
    · exact sh_runs h3 t
theorem prog_runs {p : List Helper} (h : isProg p = true) (t : ∀ x ∈ p, ∀ s ∈ x.2, s.tiny) : runs 3999 (shProg p) := by
  have hp := prog_parts h
  refine runs.join (by decide) (by decide) fun x hx => ?_
  obtain ⟨⟨n, ss⟩, hy, rfl⟩ := List.mem_map.mp hx
  obtain ⟨hn, ho⟩ := hp _ hy
  have hn' : ∀ c ∈ n, isDig c = false := by
    have hn : isName n = true := hn
    unfold isName at hn
    simp only [Bool.and_eq_true, List.all_eq_true] at hn
    exact fun c hc => small_nodig (hn.2 c hc)
  cases ss with
  | nil => exact runs.app_none hn' (runs.none (by decide))
  | cons s r =>
    show runs 3999 (n ++ [58, 32] ++ joinL [44, 32] ((s :: r).map shStep))
    rw [List.append_assoc]
    refine runs.app_none hn' (runs.app_none (by decide) (runs.join (by decide) (by decide) fun z hz => ?_))
    obtain ⟨y, hy2, rfl⟩ := List.mem_map.mp hz
    obtain ⟨b, hb⟩ := steps_mem ho y hy2
    exact step_runs hb (t _ hy y hy2)
end FG
/-! ### XC: list comprehensions out of which an exception goes -/
namespace XC
open PySem PySem.Spec PyProof.Rows L2
open Sem (wp)
/-- what is asked behind the block, its environment known -/
def cPost (M : Model) (A : Around) (E : Value → Shared → Prop) (use : Option (Value → Sem Unit)) (Q : Value → Shared → Prop) (acc : Value) (ce : Env) (r : Result) (s' : Shared) : Prop :=
  match r, use with
  | .ok _, none => ∃ m, s'.heap.Ns ce.locals m ∧ ∀ g, Heap.SameBut ce.locals s'.heap g → Q acc { s' with heap := g }
  | .ok _, some u => wpAny M A (u acc) (fun _ s2 => ∃ m, s2.heap.Ns ce.locals m ∧ ∀ g, Heap.SameBut ce.locals s2.heap g → Q .none { s2 with heap := g }) E s'
  | .error x, _ => ∃ m, s'.heap.Ns ce.locals m ∧ ∀ g, Heap.SameBut ce.locals s'.heap g →
      wpAny M A (passOn "comprehension.variables-let-go" x ce : Sem Value) (fun _ _ => False) E { s' with heap := g }
section
variable {M : Model} {A : Around} {E : Value → Shared → Prop} {s : Shared} {env : Env}
theorem comp_run {e : Expr} {sc : Scope} {pos : Pos} {newAcc first : Sem Value} {g : Comprehension} {gs : List Comprehension} {cl : List (Str × Addr)} {use : Option (Value → Sem Unit)} {Q : Value → Shared → Prop}
    (h1 : clausesOf e = g :: gs) (h2 : ∀ x, foldedSetIterable g.iter env x = pure x) (h3 : closureFor sc env = pure cl) (h4 : sc.kind = .function) (h5 : ∀ x ∈ sc.names, x.2 = .local → sc.names.lookup x.1 = some .local)
    (h : wpAny M A first (fun x t1 => wpAny M A (pyIter x) (fun it t2 => wpAny M A newAcc (fun acc t3 =>
      wpAny M A (newFunctionEnv sc env.globals cl [] env.qual none .none (some env)) (fun ce t4 =>
        codeAny M A (.compStart e 0 it acc { ce with scope := relabel sc env }) (cPost M A E use Q acc { ce with scope := relabel sc env }) t4) E t3) E t2) E t1) E s) :
    wpAny M A (comprehension e sc env pos newAcc false first use) Q E s := by
  unfold comprehension
  rw [h3, h1]
  apply wpAny_bind
  refine wpAny_mono h (fun x t1 k1 => ?_) fun _ _ z => z
  apply wpAny_bind; apply wpAny_standAt; apply wpAny_bind; apply wpAny_of_eq (h2 x); apply wpAny_bind; apply wpAny_holding
  refine wpAny_mono k1 (fun it t2 k2 => ?_) fun _ _ z => z
  apply wpAny_standIf; apply wpAny_bind
  refine wpAny_mono k2 (fun acc t3 k3 => ?_) fun _ _ z => z
  apply wpAny_bind; apply wpAny_pure; apply wpAny_bind
  refine wpAny_mono k3 (fun ce t4 k4 => ?_) fun _ _ z => z
  dsimp only
  have own : ∀ y ∈ (sc.names.filter fun y => (y.2 == .local || y.2 == .cell) && y.1 != (".0" : Str)).reverse, y.2 = .local → Env.kindOf { ce with scope := relabel sc env } y.1 = some .local :=
    fun y hy hl => lookup_relabel_local (h5 y (List.mem_filter.mp (List.mem_reverse.mp hy)).1 hl)
  have own2 : ∀ y ∈ (sc.names.filter fun y => (y.2 == .local || y.2 == .cell) && y.1 != (".0" : Str)).reverse.drop 1 ++ (sc.names.filter fun y => (y.2 == .local || y.2 == .cell) && y.1 != (".0" : Str)).reverse.take 1,
      y.2 = .local → Env.kindOf { ce with scope := relabel sc env } y.1 = some .local := fun y hy hl =>
    (List.mem_append.mp hy).elim (fun k => own y (List.mem_of_mem_drop k) hl) fun k => own y (List.mem_of_mem_take k) hl
  apply wpAny_holding; apply wpAny_bind; apply wpAny_attempt; apply wpAny_holding
  refine wpAny_run (codeAny_mono k4 fun r t5 k5 => ?_)
  cases r with
  | ok f =>
    cases use with
    | none =>
      obtain ⟨m, hn, k6⟩ := k5
      apply wpAny_bind; apply wpAny_holding
      exact wpAny_comp_letGo (cenv := { ce with scope := relabel sc env }) h4 _ t5 m own hn fun g' m' _ sb => wpAny_pure (k6 g' sb)
    | some u =>
      apply wpAny_bind; apply wpAny_rule; apply wpAny_bind; apply wpAny_holding
      refine wpAny_mono k5 (fun _ t6 k6 => ?_) fun _ _ z => z
      obtain ⟨m, hn, k7⟩ := k6
      apply wpAny_bind
      exact wpAny_comp_letGo (cenv := { ce with scope := relabel sc env }) h4 _ t6 m own2 hn fun g' m' _ sb => wpAny_pure (k7 g' sb)
  | error x =>
    have k5' : ∃ m, t5.heap.Ns ce.locals m ∧ ∀ g', Heap.SameBut ce.locals t5.heap g' → wpAny M A (passOn "comprehension.variables-let-go" x { ce with scope := relabel sc env } : Sem Value) (fun _ _ => False) E { t5 with heap := g' } := by
      cases use <;> exact k5
    obtain ⟨m, hn, k6⟩ := k5'
    apply wpAny_bind; apply wpAny_holding
    exact wpAny_comp_letGo (cenv := { ce with scope := relabel sc env }) h4 _ t5 m own hn fun g' m' _ sb => wpAny_mono (k6 g' sb) (fun _ _ f => f.elim) fun _ _ z => z
/-- the frame alone counts -/
theorem note_frame {e1 e2 : Env} (h : e1.frame = e2.frame) (v : Value) : noteFrame v e1 = noteFrame v e2 := by
  unfold noteFrame PySem.frameOf
  rw [h]

/-- a frame notes it, whatever its flight said -/
theorem look_any {base : Heap} {outer : List Env} {L e : Addr} {Z : Obj → Prop} {fl : Value} {Q : Unit → Shared → Prop} (hZ : HandSPX.Steady Z) (hfr : A.frames = some (env :: outer)) (hf : env.frame = some L)
    (f1 : base.StaysIn s.heap) (f2 : base.get? e = none) (f3 : s.heap.FunFrames base (env :: outer)) (f4 : HandSPX.TracedZ s.heap base e Z fl)
    (hQ : ∀ g, HandSPX.HeldZ base (env :: outer) e Z L g → s.heap.UpToSlots g → Q () { s with heap := g }) : wpAny M A (noteFrame (.ref e) env) Q E s := by
  by_cases hb : fl = rawInt L
  · subst hb
    exact HandSPX.againZ hf f4 (hQ s.heap ⟨f1, f2, f3, f4⟩ (Heap.UpToSlots.refl _))
  obtain ⟨oe, vs, T, oT, ts, he, hz, hd, k1, hnT, hTe, hT, hdT, k3⟩ := f4
  unfold noteFrame
  simp only [hf]
  apply wpAny_bind
  refine wpAny_field he hd k1 ?_
  rw [if_pos (show (Value.ref T != Value.none) = true from by simp)]
  apply wpAny_bind
  refine wpAny_field hT hdT k3 ?_
  rw [if_neg (show ¬ (fl == rawInt L) = true from fun z => hb (eq_of_beq z))]
  apply wpAny_bind
  refine wpAny_setField hT hdT (Array.getElem?_eq_some_iff.mp k3).1 ?_
  have ot : ∀ c, c ≠ T → (s.heap.update T (Obj.mapFields (·.setIfInBounds 3 Value.none))).get? c = s.heap.get? c := fun c hc => Heap.get?_update_other _ _ hc.symm
  have nr : ∀ c o, s.heap.get? c = some o → (∀ ws, o.data ≠ .fields ws) → c ≠ T := fun c o hc hn q => by
    subst q
    rw [hT] at hc; cases hc
    exact hn ts hdT
  refine HandSPX.wpAny_entryZ hZ hfr (f3.of_keeps fun c o hc hn => ⟨o, by rw [ot c (nr c o hc hn)]; exact hc, rfl⟩) hf (by rw [ot e hTe.symm]; exact he)
    (fun c o hc => by
      have : c ≠ T := fun q => by rw [q, hnT] at hc; cases hc
      rw [ot c this]; exact f1 c o hc) f2 hd (Array.getElem?_eq_some_iff.mp k1).1 hz fun g hN => ?_
  obtain ⟨x1, x2, x3, x4⟩ := hN
  exact hQ g ⟨x1, f2, x2, x3⟩ fun c o hc hn => x4 c o (by rw [ot c (nr c o hc hn)]; exact hc) hn
/-- noted by the frame, wherever it is -/
theorem sky_held {B : Heap} {outer : List Env} {L L2 a : Addr} {Z : Obj → Prop} {Q : Unit → Shared → Prop} (hZ : HandSPX.Steady Z) (hfr : A.frames = some (env :: outer)) (hf : env.frame = some L) (x : Sky B (env :: outer) a Z L2 s.heap)
    (hQ : ∀ g, HandSPX.HeldZ B (env :: outer) a Z L g → s.heap.UpToSlots g → Q () { s with heap := g }) : wpAny M A (noteFrame (.ref a) env) Q E s := by
  rcases x with ⟨hB, hn, hl, oe, vs, he, hz, hd, k1⟩ | ⟨k1, k2, k3, k4⟩ | ⟨k1, k2, k3, k4⟩
  · exact HandSPX.look_newZ hZ hfr hl hf he hB hn hd k1 hz hQ
  · exact look_any hZ hfr hf k1 k2 k3 k4 hQ
  · exact look_any hZ hfr hf k1 k2 k3 k4 hQ
/-- frames: one address that none of them has is let go -/
theorem frames_but {h g B : Heap} {C : Addr} (sb : Heap.SameBut C h g) : ∀ {l : List Env}, (∀ o, B.get? C = some o → True) → (∀ b ∈ frs l, b ≠ C) → h.FunFrames B l → g.FunFrames (PySem.W.hideAll B [C]) l
  | [], _, _, _ => trivial
  | ev :: r, k, hC, hl => by
    obtain ⟨h1, ⟨L, o, e1, e2, e3, e4⟩, h2⟩ := hl
    have hm : L ∈ frs (ev :: r) := List.mem_filterMap.mpr ⟨ev, List.mem_cons_self, e1⟩
    refine ⟨h1, ⟨L, o, e1, ?_, (sb.2 L (hC L hm)).trans e3, e4⟩, frames_but sb k (fun b hb => hC b ?_) h2⟩
    · cases q : (PySem.W.hideAll B [C]).get? L with
      | none => rfl
      | some u => rw [PySem.W.of_hideAll _ q] at e2; cases e2
    · obtain ⟨v, hv, hb⟩ := List.mem_filterMap.mp hb
      exact List.mem_filterMap.mpr ⟨v, List.mem_cons_of_mem _ hv, hb⟩
theorem hid1 {B : Heap} {C b : Addr} {o : Obj} (h : (PySem.W.hideAll B [C]).get? b = some o) : b ≠ C ∧ B.get? b = some o := by
  refine ⟨fun z => ?_, PySem.W.of_hideAll _ h⟩
  subst z
  rw [PySem.W.hideAll_none [b] (by simp)] at h
  cases h
theorem hid1_get {B : Heap} {C b : Addr} {o : Obj} (n : b ≠ C) (h : B.get? b = some o) : (PySem.W.hideAll B [C]).get? b = some o := PySem.W.hideAll_get _ h (by simpa using n)
end
/-- the block's context, with a wish about exceptions -/
abbrev blkE (X : Cx) (s : Shared) (H : Hp) (scope : Scope) (ce : Env) (fp : List Addr) (xe : Value → Shared → Prop) : Cx := (X.blk s H scope ce fp).wish xe
/-- what goes out of the block is taken where the comprehension stands -/
theorem blk_takes {X : Cx} {W : XK} {pins : List (Addr × Obj)} {σ : L2.St} {H3 : Hp} {s3 : Shared} {fp : List Addr} {scope : Scope} {ce : Env} {use : Option (Value → Sem Unit)} {Qf : Value → Shared → Prop} {acc : Value}
    (hs : X.stack = X.env :: X.outer) (hf : X.env.frame = some X.env.locals) (tk : Takes X fun c d _ H => W c d H) (I3 : Inv X pins σ H3 s3) (f3 : ∀ b ∈ fp, FpOk X pins H3 b) (hC : ce.locals = s3.heap.objs.size) (hcf : ce.frame = X.env.frame) :
    Takes (blkE X s3 H3 scope ce fp (notedBy (model X.prog X.w) X.A ce fun e s' => cPost (model X.prog X.w) X.A X.xe use Qf acc ce (.error e) s')) fun c d _ H => W c d H := by
  rintro u s' ⟨a, B, sI, pins2, σ2, H2, cls, d, rfl, I2, nb, up, sky, na, os, ag, wx⟩
  have I7 : Inv X pins σ H2 sI := I3.call' (ch := fp) I2.os I2.base I2.hok I2.bare fun b hb => ⟨(f3 b hb).2.2.2.1, (f3 b hb).2.1, (f3 b hb).2.2.2.2.1, (f3 b hb).2.2.2.2.2⟩
  have hnC : H2 ce.locals = none := I2.free
  have fC : FpOk X pins H2 ce.locals := I3.fpOk (by rw [hC]; exact Nat.le_refl _) hnC
  obtain ⟨c0, c1, c2, c3, c4, c5⟩ := fC
  have cS : ∀ b ∈ frs X.stack, b ≠ ce.locals := fun b hb z => by
    rcases List.mem_cons.mp (I3.stkSub b hb) with q | q
    · exact c1 (by rw [← z]; exact q)
    · exact c2 (by rw [← z]; exact q)
  have hCs : ce.locals ∉ frs X.stack := fun hm => cS _ hm rfl
  obtain ⟨m, hm, _⟩ := I2.loc
  have hm : sI.heap.Ns ce.locals m := hm
  have hfr : X.A.frames = some (X.env :: X.outer) := by rw [I3.ok.frames, hs]
  have sky : Sky B (X.env :: X.outer) a (Zc cls d) ce.locals s'.heap := by rw [← hs]; exact sky
  show wpAny _ _ (noteFrame (.ref a) ce) _ _ _
  rw [note_frame hcf]
  refine sky_held Zc.steady hfr hf sky fun g1 hh up1 => ?_
  obtain ⟨k1, k2, k3, k4⟩ := hh
  obtain ⟨oC, es, ep, ho, rN⟩ := hm
  have hBC : B.get? ce.locals = some oC := nb _ _ ho hCs
  have hm1 : g1.Ns ce.locals m := ⟨oC, es, ep, k1 _ _ hBC, rN⟩
  refine ⟨m, hm1, fun g2 sb => ?_⟩
  have haC : a ≠ ce.locals := fun z => by rw [z, hBC] at k2; cases k2
  obtain ⟨oe, vs, T, oT, ts, he, hz, hd, q1, hnT, hTe, hT, hdT, q3⟩ := k4
  have hTC : T ≠ ce.locals := fun z => by rw [z, hBC] at hnT; cases hnT
  have he2 : g2.get? a = some oe := (sb.2 a haC).trans he
  have hT2 : g2.get? T = some oT := (sb.2 T hTC).trans hT
  have none2 : ∀ b, B.get? b = none → (PySem.W.hideAll B [ce.locals]).get? b = none := fun b e => by
    cases q : (PySem.W.hideAll B [ce.locals]).get? b with
    | none => rfl
    | some o => rw [(hid1 q).2] at e; cases e
  have held2 : HandSPX.HeldZ (PySem.W.hideAll B [ce.locals]) (X.env :: X.outer) a (Zc cls d) X.env.locals g2 := by
    refine ⟨fun b o e => ?_, none2 a k2, ?_, oe, vs, T, oT, ts, he2, hz, hd, q1, none2 T hnT, hTe, hT2, hdT, q3⟩
    · obtain ⟨n, e⟩ := hid1 e
      exact (sb.2 b n).trans (k1 _ _ e)
    · refine frames_but sb (fun _ _ => trivial) (fun b hb => cS b ?_) k3
      rw [hs]; exact hb
  unfold PySem.passOn
  apply wpAny_bind
  refine wpAny_field he2 hd q1 ?_
  rw [if_neg (show ¬ (Value.ref T == Value.none) = true by simp)]
  apply wpAny_bind
  rw [hcf, hf]
  refine HandSPX.setFlight_onZ held2 fun g3 held3 up3 => wpAny_throw ?_
  refine tk _ _ ⟨a, PySem.W.hideAll B [ce.locals], { sI with heap := PySem.W.hideAll sI.heap [ce.locals], toks := sI.toks }, pins, σ, H2, cls, d, rfl, ?_, ?_, ?_, ?_, na, os, ag, wx⟩
  · exact I7.turned (t' := sI.toks) (fun b o n e => hid1_get n e) c0 c1.symm.symm c3 c4 c5
  · intro b o e hb
    obtain ⟨n, e⟩ := hid1 e
    exact hid1_get n (nb _ _ e hb)
  · intro b o e hn
    obtain ⟨n, e⟩ := hid1 e
    obtain ⟨sl1, e1⟩ := up b o e hn
    obtain ⟨sl2, e2⟩ := up1 b _ e1 hn
    exact up3 b { o with slots := sl2 } ((sb.2 b n).trans e2) hn
  · rw [hs]; exact .inr (.inr held3)
section
variable {X : Cx}
theorem core {W : XK} {pins : List (Addr × Obj)} {s : Shared} {σ : L2.St} {H : Hp} {Q : VK} {elt tg iter : Expr} {ifs : List Expr} {scope : Scope} {own : List (Str × Nat)} {pos pos' : Pos} {wi : TI} {g : TG} {tt : TT} {te : TE} {use : Option (Value → Sem Unit)} {Qf : Value → Shared → Prop}
    (hs0 : X.stack = X.env :: X.outer) (hf0 : X.env.frame = some X.env.locals) (tk : Takes X fun c d _ H => W c d H) (hc : X.calm = true) (hN : X.N.Nodup) (I : Inv X pins σ H s) (hi : PI X tg iter wi) (ok : BlkOk X.N X.env.scope scope own)
    (hg : ∀ (s : Shared) (H : Hp) (C : Addr) (cl : List (Str × Addr)) (fp : List Addr) (xe : Value → Shared → Prop), PG (blkE X s H scope (compEnvC scope cl C X.env) fp xe) tg g)
    (ht : ∀ (s : Shared) (H : Hp) (C : Addr) (cl : List (Str × Addr)) (fp : List Addr) (xe : Value → Shared → Prop), PTs (blkE X s H scope (compEnvC scope cl C X.env) fp xe) ifs tt)
    (he : ∀ (s : Shared) (H : Hp) (C : Addr) (cl : List (Str × Addr)) (fp : List Addr) (xe : Value → Shared → Prop), (Takes (blkE X s H scope (compEnvC scope cl C X.env) fp xe) fun c d _ H => W c d H) → PE (blkE X s H scope (compEnvC scope cl C X.env) fp xe) elt te)
    (hsI : ∀ x, foldedSetIterable iter X.env x = pure x) (h : tLc wi g tt te (own.map (·.2)) σ H Q)
    (hRR : ∀ D ce s' m H', Inv X pins σ H' s' → Q (.ref D) H' → s'.heap.Ns ce.locals m → FpOk X pins H' ce.locals → cPost (model X.prog X.w) X.A X.xe use Qf (.ref D) ce (.ok .next) s') :
    wpAny (model X.prog X.w) X.A (comprehension (.ListComp elt [⟨tg, iter, ifs, 0⟩] scope pos) scope X.env pos' (newList []) false (eval iter X.env) use) Qf X.xe s := by
  have fr : ∀ y ∈ scope.names, y.2 = .free → ∃ c, X.env.cells.lookup y.1 = some c := fun y hy e => (ok.free y hy e).elim (fun k => I.ok.has _ (.inl k)) fun k => I.ok.has _ (.inr k)
  refine comp_run (use := use) rfl hsI (closure_ok fr) ok.kind (fun y hy e => by rw [ok.uniq y hy, e]) (thn (hi.run pins s σ H _ I h) fun xv s1 hx => thn hx fun itv s2 h2 => ?_)
  obtain ⟨it, fp, tn, J, H2, e, I2, T, st2, f2, q⟩ := h2
  subst e
  refine wpAny_newObj_type (newEnv_comp ?_) (by show 0 ≤ sizeLine; decide)
  obtain ⟨D, hD⟩ : ∃ D, s2.heap.objs.size = D := ⟨_, rfl⟩
  rw [hD]
  obtain ⟨V0, ⟨m0, w0⟩, turn⟩ := q D (I2.hok.fresh (Nat.le_of_eq hD))
  obtain ⟨s3, hs3⟩ : ∃ s3 : Shared, { s2 with heap := s2.heap.push { cls := .type "list", data := .seq ([] : List Value).toArray } } = s3 := ⟨_, rfl⟩
  rw [hs3]
  have h3 : s3.heap = s2.heap.push { cls := .type "list", data := .seq ([] : List Value).toArray } := by rw [← hs3]
  have I3 : Inv X pins σ (upd H2 D (.lst [])) s3 := by
    rw [← hs3]
    exact I2.laid (t' := s2.toks) (fun _ _ e => Heap.get?_push_of_some _ e) (Nat.le_of_eq hD) ⟨Nat.zero_le _, [], 0, .nil, by rw [← hD]; exact Heap.get?_push_size _ rfl⟩
  have lt : ∀ b ∈ fp, b < s2.heap.objs.size := fun b hb => by
    obtain ⟨_, e, _⟩ := T.obj _ _ st2 b hb
    exact Heap.lt_size e
  have f3 : ∀ b ∈ fp, FpOk X pins (upd H2 D (.lst [])) b ∧ b < s3.heap.objs.size := fun b hb => by
    have l := lt b hb
    refine ⟨⟨?_, (f2 b hb).2⟩, by rw [h3, Heap.size_push]; exact Nat.lt_succ_of_lt l⟩
    rw [upd_ne (by rw [← hD]; exact Nat.ne_of_lt l)]
    exact (f2 b hb).1
  have st3 : tn 0 s3.heap := T.keep _ _ _ st2 fun b _ o e => by rw [h3]; exact Heap.get?_push_of_some _ e
  obtain ⟨ce, hce⟩ : ∃ ce, compEnvC scope (cellsFrom (s3.heap.objs.size + 1) scope.names (cloFrom X.env.cells scope.names [])) s3.heap.objs.size X.env = ce := ⟨_, rfl⟩
  have I4 := block_start I3 ok hN f3
  show codeAny _ _ (.compStart (.ListComp elt [⟨tg, iter, ifs, 0⟩] scope pos) 0 (.ref it) (.ref D) (compEnvC scope (cellsFrom (s3.heap.objs.size + 1) scope.names (cloFrom X.env.cells scope.names [])) s3.heap.objs.size X.env))
    (cPost (model X.prog X.w) X.A X.xe use Qf (.ref D) (compEnvC scope (cellsFrom (s3.heap.objs.size + 1) scope.names (cloFrom X.env.cells scope.names [])) s3.heap.objs.size X.env)) { s3 with heap := pushCells (s3.heap.push { cls := .type "dict", data := .dict #[] }) scope.names }
  obtain ⟨R, hR⟩ : ∃ R, cPost (model X.prog X.w) X.A X.xe use Qf (.ref D) ce = R := ⟨_, rfl⟩
  obtain ⟨xe, hxe⟩ : ∃ xe, (notedBy (model X.prog X.w) X.A ce fun e s' => cPost (model X.prog X.w) X.A X.xe use Qf (.ref D) ce (.error e) s') = xe := ⟨_, rfl⟩
  have cL : ce.locals = s3.heap.objs.size := by rw [← hce]; rfl
  have cF : ce.frame = X.env.frame := by rw [← hce]; rfl
  obtain ⟨H3, hH3⟩ : ∃ H3, upd H2 D (.lst []) = H3 := ⟨_, rfl⟩
  rw [hH3] at I3 I4 w0 f3
  have tkB := blk_takes (scope := scope) (use := use) (Qf := Qf) (acc := .ref D) hs0 hf0 tk I3 (fun b hb => (f3 b hb).1) cL cF
  rw [hxe] at tkB
  have pg := hg s3 H3 s3.heap.objs.size (cellsFrom (s3.heap.objs.size + 1) scope.names (cloFrom X.env.cells scope.names [])) fp xe
  have pt := ht s3 H3 s3.heap.objs.size (cellsFrom (s3.heap.objs.size + 1) scope.names (cloFrom X.env.cells scope.names [])) fp xe
  have pe := he s3 H3 s3.heap.objs.size (cellsFrom (s3.heap.objs.size + 1) scope.names (cloFrom X.env.cells scope.names [])) fp xe
  rw [hce] at I4 pg pt pe ⊢
  rw [hR]
  have pe := pe tkB
  have nfp : ∀ b ∈ fp, H3 b = none := fun b hb => (f3 b hb).1.1
  obtain ⟨s4, hs4⟩ : ∃ s4 : Shared, { s3 with heap := pushCells (s3.heap.push { cls := .type "dict", data := .dict #[] }) scope.names } = s4 := ⟨_, rfl⟩
  rw [hs4] at I4 ⊢
  have I4 := I4.wish xe
  have st4 : tn 0 s4.heap := T.keep _ _ _ st3 fun b _ o e => by rw [← hs4]; exact pushCells_keeps _ _ _ _ (Heap.get?_push_of_some _ e)
  have stat : ∀ {τ : L2.St} {G : Hp} {t : Shared}, Inv (blkE X s3 H3 scope ce fp xe) [] τ G t → (∀ b ∈ fp, G b = none) → ∀ b ∈ fp, FpOk (blkE X s3 H3 scope ce fp xe) [] G b := fun {τ G t} K hn b hb =>
    ⟨hn b hb, (K.ok.exf b hb).1, K.ok.exfs b hb, .inl hb, fun x c e => (K.ok.exf b hb).2 x c e, fun p hp => by cases hp⟩
  have nE : ∀ e t, xe e t → notedBy (model X.prog X.w) X.A ce (fun e s' => R (.error e) s') e t := fun e t z => by rw [← hR]; rw [← hxe] at z; exact z
  have loop : codeAny (model X.prog X.w) X.A (.compLoop (.ListComp elt [⟨tg, iter, ifs, 0⟩] scope pos) 0 (.ref it) (.ref D) ce) R s4 := by
    refine compLoop_any (fun n t => ∃ i G, Inv (blkE X s3 H3 scope ce fp xe) [] (wipe σ (own.map (·.2))) G t ∧ tn i t.heap ∧ (∀ b ∈ fp, G b = none) ∧ V0 i n G) ?_ m0 ⟨0, H3, I4, st4, nfp, w0⟩
    rintro n s5 ⟨i, H5, I5, st5, n5, w5⟩
    rcases turn i n H5 w5 with ⟨stop, qq⟩ | ⟨go, Nx, hNx, step⟩
    · refine thnF (T.done (blkE X s3 H3 scope ce fp xe) rfl rfl rfl hc i [] s5 _ H5 (fun _ _ => False) I5 (stat I5 n5) st5 stop) fun r s6 ⟨hr, I6⟩ => ?_
      subst hr
      have I7 : Inv X pins σ H5 s6 := I3.call' (ch := fp) I6.os I6.base I6.hok I6.bare fun b hb => ⟨(f3 b hb).1.2.2.2.1, (f3 b hb).1.2.1, (f3 b hb).1.2.2.2.2.1, (f3 b hb).1.2.2.2.2.2⟩
      have nC : H5 ce.locals = none := I6.free
      obtain ⟨m, hn, _⟩ := I6.loc
      show R (.ok .next) s6
      rw [← hR]
      exact hRR D ce s6 m H5 I7 qq hn (I3.fpOk (by rw [cL]; exact Nat.le_refl _) nC)
    · refine thnF (T.item (blkE X s3 H3 scope ce fp xe) rfl rfl rfl hc i [] s5 _ H5 (fun _ _ => False) I5 (stat I5 n5) st5 go) fun r s6 ⟨u, hr, h6⟩ => ?_
      subst hr
      refine thnF h6 fun _ s7 ⟨x, H7, I7, r7, y7, st7, n7⟩ => ?_
      have I8 := I7.pinned (stat I7 n7) (T.obj _ _ st7)
      refine wpAny_mono (pg.run _ s7 _ H7 x u _ I8 r7 (step x H7 y7)) (fun _ s8 ⟨σ8, H8, I9, hw8, q8⟩ => ?_) nE
      refine wpAny_mono (pt.run _ s8 σ8 H8 _ I9 q8) (fun b s9 ⟨H9, I10, q9⟩ => ?_) nE
      have fin : ∀ {t : Shared} {G : Hp}, Inv (blkE X s3 H3 scope ce fp xe) ([] ++ pinsAt fp s7.heap) σ8 G t → Nx G → ∃ m, m < n ∧ ∃ i G, Inv (blkE X s3 H3 scope ce fp xe) [] (wipe σ (own.map (·.2))) G t ∧ tn i t.heap ∧ (∀ b ∈ fp, G b = none) ∧ V0 i m G := fun {t G} K nx => by
        obtain ⟨m', hm, w'⟩ := hNx G nx
        have pn : ∀ b ∈ fp, ∀ o, s7.heap.get? b = some o → t.heap.get? b = some o ∧ G b = none := fun b hb o e =>
          let z := K.pin (b, o) (List.mem_append_right _ (List.mem_append_right _ (mem_pinsAt hb e)))
          ⟨z.1, z.2.1⟩
        refine ⟨m', hm, i + 1, G, (K.unpinned (pins := [])).weak (by rw [← hw8, wipe_length]) (fun j v e => (wipe_some (by rw [hw8]; exact e)).1), T.keep _ _ _ st7 fun b hb o e => (pn b hb o e).1, fun b hb => ?_, w'⟩
        obtain ⟨o, e, _⟩ := T.obj _ _ st7 b hb
        exact (pn b hb o e).2
      cases b with
      | false =>
        rw [if_neg Bool.false_ne_true] at q9 ⊢
        exact fin I10 q9
      | true =>
        rw [if_pos rfl] at q9 ⊢
        refine wpAny_mono (pe.run _ s9 σ8 H9 _ I10 q9) (fun z s10 ⟨yv, H10, I11, r10, acc, hD10, hz10, nx⟩ => ?_) nE
        exact app_ok (X := blkE X s3 H3 scope ce fp xe) I11 hD10 hz10 r10 fun s11 I12 => fin I12 nx
  exact codeAny_compStart_list loop (T.self X.A 0 _ _ _ st4 loop)
/-- as a value -/
theorem pe_lcX {W : XK} {elt tg iter : Expr} {ifs : List Expr} {scope : Scope} {own : List (Str × Nat)} {pos : Pos} {wi : TI} {g : TG} {tt : TT} {te : TE} (hs0 : X.stack = X.env :: X.outer) (hf0 : X.env.frame = some X.env.locals) (tk : Takes X fun c d _ H => W c d H)
    (hc : X.calm = true) (hN : X.N.Nodup) (hi : PI X tg iter wi) (ok : BlkOk X.N X.env.scope scope own)
    (hg : ∀ (s : Shared) (H : Hp) (C : Addr) (cl : List (Str × Addr)) (fp : List Addr) (xe : Value → Shared → Prop), PG (blkE X s H scope (compEnvC scope cl C X.env) fp xe) tg g)
    (ht : ∀ (s : Shared) (H : Hp) (C : Addr) (cl : List (Str × Addr)) (fp : List Addr) (xe : Value → Shared → Prop), PTs (blkE X s H scope (compEnvC scope cl C X.env) fp xe) ifs tt)
    (he : ∀ (s : Shared) (H : Hp) (C : Addr) (cl : List (Str × Addr)) (fp : List Addr) (xe : Value → Shared → Prop), (Takes (blkE X s H scope (compEnvC scope cl C X.env) fp xe) fun c d _ H => W c d H) → PE (blkE X s H scope (compEnvC scope cl C X.env) fp xe) elt te)
    (hsI : ∀ x, foldedSetIterable iter X.env x = pure x := by intro _; rfl) : PE X (.ListComp elt [⟨tg, iter, ifs, 0⟩] scope pos) (tLc wi g tt te (own.map (·.2))) := by
  refine ⟨fun pins s σ H Q I h => ?_⟩
  rw [eval_ListComp]
  refine core hs0 hf0 tk hc hN I hi ok hg ht he hsI h fun D ce s' m H' J q hn f => ⟨m, hn, fun g' sb => ?_⟩
  obtain ⟨k0, k1, _, k3, k4, k5⟩ := f
  exact ⟨.ref D, H', J.turned (t' := s'.toks) (fun b o hb e => by rw [sb.2 b hb]; exact e) k0 k1 k3 k4 k5, rfl, q⟩
/-- name = [..] on one line, the name a local -/
theorem ps_setLcX {W : XK} {i : Nat} {y : Str} {py : Pos} {elt tg iter : Expr} {ifs : List Expr} {scope : Scope} {own : List (Str × Nat)} {pos spos : Pos} {wi : TI} {g : TG} {tt : TT} {te : TE} (hs0 : X.stack = X.env :: X.outer) (hf0 : X.env.frame = some X.env.locals) (tk : Takes X fun c d _ H => W c d H)
    (hc : X.calm = true) (hN : X.N.Nodup) (hy : X.N[i]? = some y) (hyl : X.env.scope.names.lookup y = some .local)
    (hsw : swapsWith (.ListComp elt [⟨tg, iter, ifs, 0⟩] scope pos) (some (.Name y py)) spos.line X.env = pure true) (hi : PI X tg iter wi) (ok : BlkOk X.N X.env.scope scope own)
    (hg : ∀ (s : Shared) (H : Hp) (C : Addr) (cl : List (Str × Addr)) (fp : List Addr) (xe : Value → Shared → Prop), PG (blkE X s H scope (compEnvC scope cl C X.env) fp xe) tg g)
    (ht : ∀ (s : Shared) (H : Hp) (C : Addr) (cl : List (Str × Addr)) (fp : List Addr) (xe : Value → Shared → Prop), PTs (blkE X s H scope (compEnvC scope cl C X.env) fp xe) ifs tt)
    (he : ∀ (s : Shared) (H : Hp) (C : Addr) (cl : List (Str × Addr)) (fp : List Addr) (xe : Value → Shared → Prop), (Takes (blkE X s H scope (compEnvC scope cl C X.env) fp xe) fun c d _ H => W c d H) → PE (blkE X s H scope (compEnvC scope cl C X.env) fp xe) elt te)
    (hsI : ∀ x, foldedSetIterable iter X.env x = pure x := by intro _; rfl) : PS X (.Assign [.Name y py] (.ListComp elt [⟨tg, iter, ifs, 0⟩] scope pos) spos) (tAsg (tLc wi g tt te (own.map (·.2))) (gName i)) := by
  refine ⟨fun pins s σ H D I h => ?_⟩
  rw [exec_Assign_Name_used _ _ _ _ hsw]
  apply wpAny_bind; apply wpAny_standAt; apply wpAny_bind
  show wpAny _ X.A (do let _ ← comprehension (.ListComp elt [⟨tg, iter, ifs, 0⟩] scope pos) scope X.env (firstIterPos [⟨tg, iter, ifs, 0⟩] pos) (newList []) false (eval iter X.env) (some (assign (.Name y py) X.env))) _ _ s
  have h : tLc wi g tt te (own.map (·.2)) σ H (fun x H1 => gName i x σ H1 D.nx) := h
  apply wpAny_bind
  refine thn (core (Qf := fun _ s' => SP X pins D .next s') hs0 hf0 tk hc hN I hi ok hg ht he hsI h fun L ce s' m H' J q hn f => ?_) fun _ s' hq => wpAny_pure (wpAny_pure hq)
  show wpAny _ _ (assign (.Name y py) X.env (.ref L)) _ _ _
  apply wpAny_assign_Name
  refine store_ok2 (v := V.ref L) J hN hy (.inl hyl) rfl (fun s2 I2 ⟨a, sb, ha⟩ => ?_) (.inr hyl)
  obtain ⟨k0, k1, _, k3, k4, k5⟩ := f
  have na : ce.locals ≠ a := fun z => by
    rcases ha with e | e
    · exact k1 (z.trans e)
    · exact k4 y a e z.symm
  exact ⟨m, hn.sameBut sb na, fun g' sb2 => ⟨_, H', I2.turned (t' := s2.toks) (fun b o hb e => by rw [sb2.2 b hb]; exact e) k0 k1 k3 k4 k5, q⟩⟩
end
end XC
/-! ### XS: texts: turned about; great letters of plain signs -/
namespace XS
open PySem PySem.Spec PyProof.Rows L2
/-- what follows is shown once, of any state that R tells -/
theorem seqR {A B : TS} {D : Ends} {σ : L2.St} {H : Hp} (R : L2.St → Hp → Prop) (hB : ∀ σ' H', R σ' H' → B D σ' H') (hA : (∀ σ' H', R σ' H' → B D σ' H') → A { D with nx := B D } σ H) : tSeq A B D σ H := hA hB
theorem pick_rev (c : Array Nat) : ((List.range c.size).map fun k => c.size - 1 - k).filterMap (c[·]?) = c.toList.reverse := by
  refine List.ext_getElem? fun i => ?_
  have e : ((List.range c.size).map fun k => c.size - 1 - k).filterMap (c[·]?) = (List.range c.size).map fun k => c.getD (c.size - 1 - k) 0 := by
    rw [PyProof.Rows.filterMap_get, List.map_map]
    · rfl
    · intro j hj
      obtain ⟨k, hk, rfl⟩ := List.mem_map.mp hj
      have := List.mem_range.mp hk
      show c.size - 1 - k < c.size
      omega
  rw [e]
  by_cases h : i < c.size
  · rw [List.getElem?_map, List.getElem?_range h, List.getElem?_reverse (by simpa using h)]
    simp only [Option.map_some, Array.length_toList]
    have h2 : c.size - 1 - i < c.size := by omega
    rw [Array.getElem?_toList, Array.getElem?_eq_getElem h2]
    simp [Array.getD, h2]
  · rw [List.getElem?_eq_none (by simpa using h), List.getElem?_eq_none (by simpa using h)]
section
variable {X : Cx}
def tRevS (te : TE) : TE := fun σ H Q => te σ H fun x H1 => ∃ z : Str, x = .str z ∧ z.length ≤ sizeLine ∧ Q (.str ⟨z.cps.toList.reverse.toArray⟩) H1
theorem pe_revS {e : Expr} {te : TE} {k : Nat} {p1 p2 p3 pos : Pos} (he : PE X e te) : PE X (.Subscript e (.Slice none none (some (.UnaryOp .USub (.Constant (.int 1) k p1) p2)) p3) pos) (tRevS te) := by
  refine ⟨fun pins s σ H Q I h => ?_⟩
  apply Subscript_
  refine thn (he.run pins s σ H _ I h) fun v s1 ⟨x, H1, I1, r1, z, ex, hz, q⟩ => ?_
  subst ex
  obtain ⟨tk, rfl⟩ := r1
  have st : PO X (some (.UnaryOp .USub (.Constant (.int 1) k p1) p2)) (tPart (tUn (rU fun i => .int (-i)) (tC (.int 1)))) := po_some (pe_un un_neg pe_int)
  apply wpAny_Slice
  refine thn (po_none.run pins s1 σ H1 (fun o G => o = none ∧ G = H1) I1 ⟨rfl, rfl⟩) fun vl s2 ⟨l, G2, I2, pl, el, e2⟩ => ?_
  subst el e2
  refine thn (po_none.run pins s2 σ G2 (fun o G => o = none ∧ G = G2) I2 ⟨rfl, rfl⟩) fun vu s3 ⟨u, G3, I3, pu, eu, e3⟩ => ?_
  subst eu e3
  refine thn (st.run pins s3 σ G3 (fun o G => o = some (-1) ∧ G = G3) I3 ⟨1, rfl, -1, rfl, rfl, rfl⟩) fun vs s4 ⟨o, G4, I4, ps, eo, e4⟩ => ?_
  subst eo e4
  have I5 : Inv X pins σ G4 { s4 with heap := s4.heap.push { cls := .type "slice", data := .fields #[vl, vu, vs] } } := I4.kept (t' := s4.toks) fun _ _ w => Heap.get?_push_of_some _ w
  show wpAny (model X.prog X.w) X.A (subscriptTail e (.Slice none none (some (.UnaryOp .USub (.Constant (.int 1) k p1) p2)) p3) (.str z tk) (.ref s4.heap.objs.size)) (EP X pins σ Q) X.xe { s4 with heap := s4.heap.push { cls := .type "slice", data := .fields #[vl, vu, vs] } }
  obtain ⟨ll, e5, e6⟩ := IsPart.raw pl
  obtain ⟨lu, e7, e8⟩ := IsPart.raw pu
  obtain ⟨ls, e9, e10⟩ := IsPart.raw ps
  refine tail_any (ops := [.str z tk, .ref s4.heap.objs.size]) (typeIs_str _ _ _) F.slot_str_getitem.lookup ?_ (by with_unfolding_all rfl)
  subst e5 e7 e9
  refine wpAny_getItem_str_slice (l := ll) (u := lu) (st := ls) ⟨_, Heap.get?_push_size _ rfl, rfl, rfl⟩ (by rw [e10]; rfl) ?_
  have em : sliceMade z tk ll lu ls = .str ⟨z.cps.toList.reverse.toArray⟩ := by
    unfold sliceMade slicePicked
    rw [e10, e8, e6]
    have h0 : ((some (-1 : Int)).getD 1 == 1 && (Builtin.Str.strSliceIndices none none ((some (-1 : Int)).getD 1) z.length).length == z.length) = false := by
      have : ((some (-1 : Int)).getD 1 == 1) = false := rfl
      rw [this, Bool.false_and]
    rw [h0, if_neg Bool.false_ne_true]
    show Made.str ⟨((Builtin.Str.strSliceIndices none none (-1) z.length).filterMap (z.cps[·]?)).toArray⟩ = _
    rw [PyProof.Rows.picked_rev, show z.length = z.cps.size from rfl, pick_rev]
  rw [em]
  exact ⟨by have h9 : z.cps.size ≤ sizeLine := hz; show (z.cps.toList.reverse.toArray).size ≤ sizeLine; simpa using h9, .str _, G4, I5.tok _, ⟨_, rfl⟩, q⟩
end
/-! ### great letters -/
def up (c : Nat) : Nat := if 97 ≤ c ∧ c ≤ 122 then c - 32 else c
theorem upperOf_asc : ∀ c, c < 128 → Unicode.upperOf c = [up c] := by decide +kernel
theorem upper_asc {l : List Nat} (h : ∀ c ∈ l, c < 128) : Txt.upper ⟨l.toArray⟩ = ⟨(l.map up).toArray⟩ := by
  show (⟨placed ⟨l.toArray⟩ fun _ c => Unicode.upperOf c⟩ : PySem.Str) = _
  congr 1
  unfold placed
  have e : Array.mapIdx (fun _ c => (Unicode.upperOf c).toArray) l.toArray = (l.map fun c => #[up c]).toArray := by
    apply Array.ext
    · simp
    · intro i h1 h2
      simp only [Array.getElem_mapIdx, List.getElem_toArray, List.getElem_map]
      rw [upperOf_asc _ (h _ (List.getElem_mem _))]
  show (Array.mapIdx (fun _ c => (Unicode.upperOf c).toArray) l.toArray).flatten = _
  rw [e]
  have e2 : ∀ l : List Nat, (l.map fun c => #[up c]).toArray.flatten = (l.map up).toArray := by
    intro l
    induction l with
    | nil => simp
    | cons a r ih =>
      apply Array.toList_inj.mp
      have := congrArg Array.toList ih
      simp only [Array.toList_flatten, List.map_cons] at this ⊢
      simpa using this
  exact e2 l
end XS
/-! ### XL: lists compared with the empty one -/
namespace XL
open PySem PySem.Spec PyProof.Rows L2
theorem plain_is {hp : Heap} {a : Addr} {its : Array Value} (p : PlainL hp a its) : hp.IsList a its := by
  obtain ⟨o, n, e, c, _, d⟩ := p
  exact ⟨o, e, c, n, d⟩
section
variable {X : Cx} (K : PySem.W.Frag) (h : X.K = K)
include h
def rEqE (K : PySem.W.Frag) : R2 := fun x y H Q => ∃ a b xs, x = .ref a ∧ y = .ref b ∧ SqL K H a xs ∧ SqL K H b [] ∧ Q (.bl (decide (xs = []))) H
def rNeE (K : PySem.W.Frag) : R2 := fun x y H Q => ∃ a b xs, x = .ref a ∧ y = .ref b ∧ SqL K H a xs ∧ SqL K H b [] ∧ Q (.bl (!decide (xs = []))) H
theorem op_eqE (hu : X.A.units + 64 < cLine) : OpR X (compareOp .Eq) (rEqE K) := by
  subst h
  intro pins s σ H x y v u Q I rx ry h
  obtain ⟨a, b, xs, rfl, rfl, ha, hb, q⟩ := h
  cases rx
  cases ry
  obtain ⟨its, r1, p1, _⟩ := I.list ha
  obtain ⟨its2, r2, p2, _⟩ := I.list hb
  cases r2
  cases r1 with
  | nil =>
    exact SeqAt.RcAt.lists (e := fun _ => true) (plain_is p1) (plain_is p2) rfl (by omega) (fun j h1 _ => absurd h1 (by simp)) _ _ _ _ ⟨.bl _, H, I, rfl, q⟩
  | cons r t =>
    exact SeqAt.RcAt.lists_lengths (plain_is p1) (plain_is p2) (by simp) (by omega) _ _ _ _ ⟨.bl _, H, I, rfl, q⟩
theorem op_neE (hu : X.A.units + 64 < cLine) : OpR X (compareOp .NotEq) (rNeE K) := by
  subst h
  intro pins s σ H x y v u Q I rx ry h
  obtain ⟨a, b, xs, rfl, rfl, ha, hb, q⟩ := h
  cases rx
  cases ry
  obtain ⟨its, r1, p1, _⟩ := I.list ha
  obtain ⟨its2, r2, p2, _⟩ := I.list hb
  cases r2
  cases r1 with
  | nil =>
    exact SeqAt.RcNeAt.lists (e := fun _ => true) (plain_is p1) (plain_is p2) rfl (by omega) (fun j h1 _ => absurd h1 (by simp)) _ _ _ _ ⟨.bl _, H, I, rfl, q⟩
  | cons r t =>
    exact SeqAt.RcNeAt.lists_lengths (plain_is p1) (plain_is p2) (by simp) (by omega) _ _ _ _ ⟨.bl _, H, I, rfl, q⟩
def rEqTE (K : PySem.W.Frag) : R2 := fun x y H Q => ∃ a b xs, x = .ref a ∧ y = .ref b ∧ SqT K H a xs ∧ SqT K H b [] ∧ Q (.bl (decide (xs = []))) H
theorem op_eqTE (hu : X.A.units + 64 < cLine) : OpR X (compareOp .Eq) (rEqTE K) := by
  subst h
  intro pins s σ H x y v u Q I rx ry h
  obtain ⟨a, b, xs, rfl, rfl, ha, hb, q⟩ := h
  cases rx
  cases ry
  obtain ⟨its, r1, p1, _⟩ := I.tuple ha
  obtain ⟨its2, r2, p2, _⟩ := I.tuple hb
  cases r2
  cases r1 with
  | nil =>
    have := SeqAt.RcAt.tuples (A := X.A) (s := s) (e := fun _ => true) (show s.heap.IsTuple a (#[] : Array Value) from p1) (show s.heap.IsTuple b (#[] : Array Value) from p2) (by omega) (fun j h1 _ => absurd h1 (by simp))
    exact this _ _ _ _ ⟨.bl _, H, I, rfl, q⟩
  | @cons x u l us r t =>
    have := SeqAt.RcAt.tuples (A := X.A) (s := s) (e := fun _ => true) (show s.heap.IsTuple a (u :: us).toArray from p1) (show s.heap.IsTuple b (#[] : Array Value) from p2) (by omega) (fun j _ h2 => absurd h2 (by simp))
    refine this _ _ _ _ ⟨.bl _, H, I, ?_, q⟩
    simp
    rfl
end
section
variable {X : Cx}
/-- f'..' of two parts or more, by a name -/
def tJnd (ts : List TE) : TE := fun σ H Q => tJs ts Str.empty σ H fun out H1 => Q (.str out) H1
theorem pe_jnd {v1 v2 : Expr} {rest : List Expr} {ts : List TE} {pos : Pos} (h : PJ X (v1 :: v2 :: rest) ts) : PE X (.JoinedStr (v1 :: v2 :: rest) pos) (tJnd ts) := pe_joined h
end
end XL
/-! ### XT: a caught exception that is kept by a name -/
namespace XT
open PySem PySem.Spec PyProof.Rows L2
open Sem (wp)
/-- an exception of that class at a, by its object alone -/
def ExE (c : Value) (d : Option Addr) (a : Addr) : HO := .ext fun h => ∃ oe, h.get? a = some oe ∧ Zc c d oe ∧ ∃ vs, oe.data = .fields vs
/-- as wAs, but what follows the suite may lean on the exception -/
def wKeep (K : PySem.W.Frag) (c : Value) (i : Nat) (ts : Addr → Value → Option Addr → TS) (Wout : WX) (D : Ends) : WX := fun k d σ H =>
  ∃ b, PySem.W.exmOne K k c = some b ∧
    (b = true → ∀ a, H a = none → ts a k d ⟨fun σ2 H2 => D.nx (σ2.set i none) (upd H2 a (ExE k d a)), fun _ _ => False, fun _ _ => False, fun _ _ => False⟩ (σ.set i (some (.ref a))) H) ∧
    (b = false → Wout k d σ H)
section
variable {X : Cx} {pins : List (Addr × Obj)} {σ : L2.St} {H : Hp} {s : Shared}
/-- a pinned object that is new becomes a tracked one -/
theorem track {a : Addr} {oe : Obj} {o : HO} (I : L2.Inv X ((a, oe) :: pins) σ H s) (n0 : X.s_0.heap.get? a = none) (np : ∀ p ∈ X.pn ++ pins, p.1 ≠ a) (ok : ObjOk X.prog X.w (upd H a o) s.heap a o) : L2.Inv X pins σ (upd H a o) s := by
  obtain ⟨p1, p2, p3, p4, p5⟩ := I.pin (a, oe) (List.mem_append_right _ List.mem_cons_self)
  have p2 : H a = none := p2
  have ne : ∀ b u, H b = some u → b ≠ a := fun b u e => ne_of_none e p2
  refine ⟨I.ok, I.os, I.bare, ⟨I.base.keep, I.base.slot, fun b u e n x => ?_, I.base.there, fun b xs e => ?_, fun b u xs e => ?_, fun b ps e => ?_⟩, I.loc, I.cell, ?_, fun x c e => ?_, fun p hp => ?_, ?_, I.len⟩
  · have nb : b ≠ a := fun z => by rw [z, n0] at e; cases e
    rw [upd_ne nb]
    exact I.base.free b u e n x
  · have q := I.base.tups b xs e
    rw [upd_ne (ne _ _ q)]; exact q
  · have q := I.base.frzs b u xs e
    rw [upd_ne (ne _ _ q)]; exact q
  · obtain ⟨more, q⟩ := I.base.tbls b ps e
    exact ⟨more, by rw [upd_ne (ne _ _ q)]; exact q⟩
  · rw [upd_ne (Ne.symm p3)]; exact I.free
  · obtain ⟨v, oc, hc, hd⟩ := I.cell x c e
    have nc : c ≠ a := fun z => by
      subst z
      have p1 : s.heap.get? c = some oe := p1
      rw [p1] at hc
      cases hc
      exact p5 v hd
    rw [upd_ne nc]; exact I.freeC x c e
  · have hp2 : p ∈ X.pn ++ (a, oe) :: pins := by
      rcases List.mem_append.mp hp with h | h
      · exact List.mem_append_left _ h
      · exact List.mem_append_right _ (List.mem_cons_of_mem _ h)
    obtain ⟨q1, q2, q3⟩ := I.pin p hp2
    exact ⟨q1, by rw [upd_ne (np p hp)]; exact q2, q3⟩
  · exact I.hok.laidN (fun _ _ h => h) p2 ok
end
section
variable {X : Cx} {x n : Str} {c : Value} {i : Nat} {body rest : List Stmt} {b0 : Stmt} {np pos pos2 : Pos} {tb : WX → TS} {ts : Addr → Value → Option Addr → TS} {Wout : WX}
theorem ps_try_keep (hx : X.ex = []) (hst : X.stack = X.env :: X.outer) (hfr0 : X.env.frame = some X.env.locals) (hN : X.N.Nodup) (hi : X.N[i]? = some n) (hln : X.env.kindOf n = some .local) (hc : Names X x c) (tk : Takes X Wout)
    (hb : ∀ (W : WX) (pn : List (Addr × Obj)) (xe : Value → Shared → Prop), Takes (X.tr pn xe) W → PassesOwn (model X.prog X.w) X.A X.env xe → PSs (X.tr pn xe) body (tb W))
    (hsu : ∀ (a : Addr) (oe : Obj) (k : Value) (d : Option Addr) (pn : List (Addr × Obj)), Zc k d oe → (∃ vs, oe.data = .fields vs) → PSs (X.suite a ((a, oe) :: pn)) (b0 :: rest) (ts a k d)) :
    PS X (.Try body [.ExceptHandler (some (.Name x np)) (some n) (b0 :: rest) pos2] [] [] pos) (fun D σ H => tb (wKeep X.K c i ts Wout D) D σ H) := by
  refine ⟨fun pins s σ H D I q0 => ?_⟩
  have okX := I.ok
  have frms : X.A.frames = some (X.env :: X.outer) := by rw [okX.frames, hst]
  refine wpAny_Try_except (wpAny_mono ((hb (wKeep X.K c i ts Wout D) (X.pn ++ pins) _ (fun u s9 z => ?_) PassesOwn.looking).run [] s σ H D (I.toTry _) q0) (fun f s1 z => ?_) (fun e s1 z => z))
  · obtain ⟨a, B, sR, pR, σR, HR, k, d, rfl, JR, keepB, up, sky, freeA, osR, agR, b, hb1, hyes, hno⟩ := z
    have J := JR.ofTry okX
    have sky2 : Sky B (X.env :: X.outer) a (Zc k d) X.env.locals s9.heap := by rw [← hst]; exact sky
    show wpAny (model X.prog X.w) X.A (noteFrame (.ref a) X.env) _ _ _
    refine Sky.land Zc.steady frms hfr0 sky2 fun h3 fl3 up3 => ?_
    have J3 : L2.Inv X pins σR HR { s9 with heap := h3 } := J.landed keepB fl3.1 (up.trans up3) osR agR
    obtain ⟨o3, w3, g3, z3, e3⟩ := fl3.there
    have offFrames : a ∉ frs (X.env :: X.outer) := fun hm => by
      obtain ⟨_, o', e', no⟩ := fl3.2.2.1.mem hm
      rw [g3] at e'; cases e'
      exact no _ e3
    have offL : a ≠ X.env.locals := fun z => offFrames (List.mem_filterMap.mpr ⟨X.env, List.mem_cons_self, by rw [hfr0, z]⟩)
    have offF : a ∉ X.fs := fun hm => by
      obtain ⟨e, he, q⟩ := List.mem_filterMap.mp hm
      exact offFrames (List.mem_filterMap.mpr ⟨e, List.mem_cons_of_mem _ he, q⟩)
    have newR : sR.heap.get? a = none := by
      cases q : sR.heap.get? a with
      | none => rfl
      | some o =>
        have := keepB a o q (by rw [hst]; exact offFrames)
        rw [fl3.2.1] at this
        cases this
    have new0 : X.s_0.heap.get? a = none := by
      cases q : X.s_0.heap.get? a with
      | none => rfl
      | some o =>
        obtain ⟨o', e'⟩ := J.base.there a o q (by rw [hx]; exact fun z => nomatch z)
        rw [newR] at e'; cases e'
    have apart : ∀ p ∈ X.pn ++ pins, p.1 ≠ a := fun p hp z => by
      have e := (J.pin p hp).1
      rw [z, newR] at e; cases e
    have S3 := J3.suite g3 e3 freeA offL offF
    refine wpAny_handleBy_cons (codeAny_handlers_test ?_) (by intro q; cases q)
    have LT : PySem.W.Looks (model X.prog X.w) h3 (typeOf (.ref a)) k := fun A Q E s r q => wpAny_typeOf_ref (r _ _ g3) (by rw [z3.1]; exact q)
    have LM := PySem.W.exm_one (M := model X.prog X.w) (J3.kIn) LT hb1
    have asked : ∀ {Q : Value → Shared → Prop} {E : Value → Shared → Prop}, Q c { s9 with heap := h3 } → wpAny (model X.prog X.w) (X.A.mark (some (.ref a))) (eval (.Name x np) X.env) Q E { s9 with heap := h3 } := fun {Q E} q => by
      obtain ⟨hg, hd, hm | ⟨hm, hv, hn⟩⟩ := hc
      · exact ld_glob (X := X.suite a ((a, o3) :: (X.pn ++ pins))) S3 hg hm q hd
      · exact ld_blt (X := X.suite a ((a, o3) :: (X.pn ++ pins))) S3 hg hm hv q hn hd
    refine asked (LM.here ?_)
    cases b with
    | true =>
      refine codeAny_handlers_suite_as (HandSPX.lands_againZ fl3 fun h4 fl4 up4 => ?_)
      have J4 : L2.Inv X pins σR HR { s9 with heap := h4 } := J.landed keepB fl4.1 ((up.trans up3).trans up4) osR agR
      obtain ⟨o4, w4, g4, z4, e4⟩ := fl4.there
      have S4 := J4.suite g4 e4 freeA offL offF
      refine store_ok (X := X.suite a ((a, o4) :: (X.pn ++ pins))) (v := .ref a) S4 hN hi (.inl hln) rfl (fun s5 S5 => ?_) (.inr hln)
      refine wpAny_mono ((hsu a o4 k d (X.pn ++ pins) z4 ⟨_, e4⟩).run [] s5 _ HR _ S5 (hyes rfl a freeA)) (fun f s6 y => ?_) (fun _ _ z => False.elim z)
      cases f with
      | next =>
        obtain ⟨σ6, H6, S6, q6⟩ := y
        have J6 : L2.Inv X ((a, o4) :: pins) σ6 H6 s6 := by
          have U := S6.unsuite okX
          refine ⟨U.ok, U.os, U.bare, U.base, U.loc, U.cell, U.free, U.freeC, fun p hp => ?_, U.hok, U.len⟩
          rcases List.mem_append.mp hp with h | h
          · exact U.pin p (List.mem_append_left _ h)
          · rcases List.mem_cons.mp h with h | h
            · exact S6.pin p (by rw [h, List.append_nil]; exact List.mem_cons_self)
            · exact U.pin p (List.mem_append_right _ h)
        refine gone_ok J6 hN hi hln fun s7 J7 => ?_
        have g7 : s7.heap.get? a = some o4 := (J7.pin (a, o4) (List.mem_append_right _ List.mem_cons_self)).1
        exact ⟨_, _, track (o := ExE k d a) J7 new0 apart ⟨⟨o4, g7, z4, _, e4⟩, ⟨_, g7⟩, fun h1 h2 ⟨o, g, r⟩ kp => ⟨o, kp _ g, r⟩⟩, q6⟩
      | brk =>
        obtain ⟨_, _, _, q6⟩ := y
        exact False.elim q6
      | cont =>
        obtain ⟨_, _, _, q6⟩ := y
        exact False.elim q6
      | ret u =>
        obtain ⟨_, _, _, _, _, q6⟩ := y
        exact False.elim q6
    | false =>
      show wpAny _ X.A (handleBy (.ref a) X.env []) _ _ _
      refine wpAny_handleBy_nil ?_
      obtain ⟨k1, k2, k3, oe, vs, T, oT, vT, he, hz, hd, h1, hr⟩ := id fl3
      unfold PySem.passOn
      refine wpAny_bind (wpAny_field he hd h1 ?_)
      rw [if_neg (show ¬ ((Value.ref T == Value.none) = true) from by simp)]
      have out : wpAny (model X.prog X.w) X.A (setFlight (.ref a) X.env.frame) (fun _ s4 => wpAny (model X.prog X.w) X.A (throw (.ref a) : Sem Flow) (SP X pins D) X.xe s4) X.xe { s9 with heap := h3 } := by
        rw [hfr0]
        refine HandSPX.setFlight_upZ fl3 fun h4 hh4 up4 => wpAny_throw (tk _ _ ?_)
        exact ⟨a, B, sR, pins, σR, HR, k, d, rfl, J, keepB, (up.trans up3).trans up4, .inr (.inr (by rw [hst]; exact hh4)), freeA, osR, agR, hno rfl⟩
      first
        | exact wpAny_bind (wpAny_pure (wpAny_bind out))
        | exact wpAny_bind out
  · cases f with
    | next =>
      obtain ⟨σ1, H1, J1, q⟩ := z
      exact wpAny_execs_nil ⟨σ1, H1, J1.ofTry okX, q⟩
    | brk =>
      obtain ⟨σ1, H1, J1, q⟩ := z
      exact ⟨σ1, H1, J1.ofTry okX, q⟩
    | cont =>
      obtain ⟨σ1, H1, J1, q⟩ := z
      exact ⟨σ1, H1, J1.ofTry okX, q⟩
    | ret u =>
      obtain ⟨v, σ1, H1, J1, r, q⟩ := z
      exact ⟨v, σ1, H1, J1.ofTry okX, r, q⟩
end
def excB (K : PySem.W.Frag) (D : Addr) : Bool :=
  decide (PySem.W.findIn K (.ref D) "__getattribute__" = some (some (.builtin "BaseException.__getattribute__"))) && (decide (PySem.W.findIn K (.ref D) "__getattr__" = some none) && (decide (PySem.W.subIn K (.ref D) (.type "BaseException") = some true) &&
  (PySem.W.hasDictIn K D && (decide (PySem.W.findIn K (.ref D) "__class__" = some (some (.builtin "object.__class__"))) && (decide (PySem.W.specialIn K (.builtin "object.__class__") "__get__" = some (some (.builtin "getset_descriptor.__get__"))) &&
  (decide (PySem.W.takesIn K (.builtin "object.__class__") = some true) && decide (PySem.W.mroIn K D (.type "object") = some true)))))))
theorem excB_ok {K : PySem.W.Frag} {D : Addr} (h : excB K D = true) : ExcC K D := by
  unfold excB at h
  simp only [Bool.and_eq_true, decide_eq_true_eq] at h
  obtain ⟨h1, h2, h3, h4, h5, h6, h7, h8⟩ := h
  exact ⟨h1, h2, h3, h4, h5, h6, h7, h8⟩
section
variable {X : Cx} (K : PySem.W.Frag) (hK : X.K = K)
include hK
/-- isinstance of an exception that is kept -/
def rKept (K : PySem.W.Frag) : List V → Hp → VK → Prop := fun xs H Q => ∃ (a D : Addr) (c : V) (u : Value) (b : Bool), xs = [.ref a, c] ∧ H a = some (ExE (.ref D) none a) ∧ ExcC K D ∧ ClsV c u ∧ PySem.W.kitOne K (.ref D) u = some b ∧ Q (.bl b) H
def rKeptT (K : PySem.W.Frag) : List V → Hp → VK → Prop := fun xs H Q => ∃ (a D tp : Addr) (cs : List V) (us : List Value) (b : Bool), xs = [.ref a, .ref tp] ∧ H a = some (ExE (.ref D) none a) ∧ ExcC K D ∧ H tp = some (.tup cs) ∧ Paired ClsV cs us ∧
  PySem.W.kitAny K (.ref D) us = some b ∧ Q (.bl b) H
theorem inst_of {pins : List (Addr × Obj)} {σ : L2.St} {H : Hp} {s : Shared} {a D : Addr} (I : L2.Inv X pins σ H s) (h : H a = some (ExE (.ref D) none a)) : ∃ oe, PySem.W.InstAt s.heap a oe D none := by
  obtain ⟨⟨oe, g, z, w, d⟩, _, _⟩ := (show ObjOk X.prog X.w H s.heap a (ExE (.ref D) none a) from I.hok a _ h)
  obtain ⟨oc, od, dt, sl⟩ := oe
  obtain ⟨z1, z2⟩ := z
  dsimp only at z1 z2 d
  subst z1 z2 d
  exact ⟨_, g, rfl, rfl, trivial⟩
theorem call_kept : CallR X (.builtin "isinstance") (rKept K) := by
  subst hK
  intro pins s σ H xs us Q I r h
  obtain ⟨a, D, c, u, b, rfl, ha, C, k, e, q⟩ := h
  obtain ⟨u1, u2, rfl, r1, r2⟩ := vals2 r
  cases (show u1 = Value.ref a from r1)
  have e2 := k.eq r2
  subst e2
  obtain ⟨oe, J⟩ := inst_of _ rfl I ha
  exact PySem.W.kia_one (PySem.W.handS_kitx_exc C.hg C.hk C.hs C.hd C.ha C.hn C.ht C.hm) I.kIn J e (fun z => nomatch z) fun tk => ⟨.bl b, H, I.tok tk, rfl, q⟩
theorem call_keptT : CallR X (.builtin "isinstance") (rKeptT K) := by
  subst hK
  intro pins s σ H xs us Q I r h
  obtain ⟨a, D, tp, cs, ws, b, rfl, ha, C, hT, k, e, q⟩ := h
  obtain ⟨u1, u2, rfl, r1, r2⟩ := vals2 r
  cases (show u1 = Value.ref a from r1)
  cases (show u2 = Value.ref tp from r2)
  obtain ⟨oe, J⟩ := inst_of _ rfl I ha
  obtain ⟨_, its, rv, o, h1, h2, n, h3⟩ := (show ObjOk X.prog X.w H s.heap tp (.tup cs) from I.hok tp _ hT)
  have e3 := ClsV.all k rv
  subst e3
  obtain ⟨oc, od, dt, sl⟩ := o
  dsimp only at h2 h3
  subst h2 h3
  exact PySem.W.kia_tup (PySem.W.handS_kitx_exc C.hg C.hk C.hs C.hd C.ha C.hn C.ht C.hm) I.kIn J h1 e (fun z => nomatch z) fun tk => ⟨.bl b, H, I.tok tk, rfl, q⟩
end
end XT
/-! ### MT: what is read is written as it stands -/
namespace FG
open PySem PySem.NumText L2
theorem digitsVal_app1 (l : L) (c : Nat) : digitsVal (l ++ [c]) = digitsVal l * 10 + (c - 48) := by simp [digitsVal]
theorem nd_step {n : Nat} (h : 10 ≤ n) : nd n = nd (n / 10) ++ [48 + n % 10] := TL.numL_step h
theorem nd_lt {n : Nat} (h : n < 10) : nd n = [48 + n] := TL.numL_lt h
theorem digitsVal_pos : ∀ {l : L} {c : Nat}, isDig c = true → c ≠ 48 → 1 ≤ digitsVal (c :: l) := by
  intro l c hc h
  have key : ∀ (l : L) (a : Nat), 1 ≤ a → 1 ≤ l.foldl (fun acc c => acc * 10 + (c - 48)) a := by
    intro l
    induction l with
    | nil => intro a h; exact h
    | cons x r ih =>
      intro a h
      have h2 : 1 ≤ a * 10 + (x - 48) := by omega
      exact ih _ h2
  have := dig_of hc
  show 1 ≤ l.foldl (fun acc c => acc * 10 + (c - 48)) (0 * 10 + (c - 48))
  exact key l _ (by omega)
/-- figures without a nought ahead are the figures of their number -/
theorem nd_back : ∀ (k : Nat) (l : L), l.length ≤ k → l ≠ [] → (∀ c ∈ l, isDig c = true) → (∀ r, l = 48 :: r → r = []) → nd (digitsVal l) = l
  | 0, l, h, hn, _, _ => absurd (List.eq_nil_of_length_eq_zero (by omega)) hn
  | k + 1, l, h, hn, hd, hz => by
    rcases List.eq_nil_or_concat l with e | ⟨r, c, e⟩
    · exact absurd e hn
    rw [List.concat_eq_append] at e
    subst e
    have hc := dig_of (hd c (by simp))
    cases r with
    | nil =>
      rw [List.nil_append]
      have e1 : digitsVal [c] = c - 48 := by simp [digitsVal]
      rw [e1, nd_lt (by omega)]
      congr 1; omega
    | cons a t =>
      have ha := hd a (by simp)
      have ha0 : a ≠ 48 := fun z => by
        subst z
        have := hz (t ++ [c]) rfl
        simp at this
      have hp := digitsVal_pos (l := t) ha ha0
      have ih := nd_back k (a :: t) (by simp only [List.length_append, List.length_cons, List.length_nil] at h ⊢; omega) (by simp) (fun x hx => hd x (List.mem_append_left _ hx)) fun r' e => by
        injection e with e1 _
        exact absurd e1 ha0
      rw [digitsVal_app1]
      generalize digitsVal (a :: t) = v at *
      rw [nd_step (by omega), show (v * 10 + (c - 48)) / 10 = v by omega, show (v * 10 + (c - 48)) % 10 = c - 48 by omega, ih, show 48 + (c - 48) = c by omega]
theorem dig_readNum {t : L} {i : Int} (h : readNum t = some i) : dig i = t := by
  unfold readNum at h
  split at h
  · cases h
  split at h
  · cases h
  split at h
  · cases h
  rename_i h1 h2 h3
  have h2' : (figs t).all isDig = true := by simpa using h2
  have hd : ∀ c ∈ figs t, isDig c = true := fun c hc => List.all_eq_true.mp h2' c hc
  have e := Option.some.inj h
  have back : (∀ r, figs t = 48 :: r → r = []) → nd (digitsVal (figs t)) = figs t := nd_back _ _ (Nat.le_refl _) h1 hd
  by_cases c : t.take 1 = [45]
  · rw [if_pos c] at e
    have ef : figs t = t.drop 1 := by unfold figs; rw [if_pos c]
    have et : t = 45 :: figs t := by
      cases t with
      | nil => cases c
      | cons a r =>
        have : a = 45 := by simpa using c
        subst this
        rw [ef]; rfl
    have hne : t ≠ [48] := fun z => by rw [z] at c; revert c; decide
    have h4 : ∀ r, figs t ≠ 48 :: r := fun r z => h3 ⟨by rw [z]; rfl, hne⟩
    have hb := back fun r z => absurd z (h4 r)
    obtain ⟨a, r, ea⟩ : ∃ a r, figs t = a :: r := by
      cases hh : figs t with
      | nil => exact absurd hh h1
      | cons a r => exact ⟨a, r, rfl⟩
    have ha0 : a ≠ 48 := fun z => h4 r (by rw [ea, z])
    have hp : 1 ≤ digitsVal (figs t) := by
      rw [ea]
      exact digitsVal_pos (hd a (by rw [ea]; simp)) ha0
    rw [← e]
    obtain ⟨n, hn⟩ : ∃ n, digitsVal (figs t) = n + 1 := ⟨digitsVal (figs t) - 1, by omega⟩
    rw [hn] at hb ⊢
    rw [dig_neg, hb]
    exact et.symm
  · rw [if_neg c] at e
    have ef : figs t = t := by unfold figs; rw [if_neg c]
    rw [ef] at back h3 e
    rw [← e, dig_nat]
    refine back fun r z => ?_
    by_cases hr : t = [48]
    · rw [hr] at z
      injection z with _ z
      exact z.symm
    · exact absurd ⟨by rw [z]; rfl, hr⟩ h3
theorem partGo_join : ∀ {r : L} {lv : Int} {cur : L} {ws : List L}, partGo lv cur r = some ws → joinL [32] ws = cur ++ r
  | [], lv, cur, ws, h => by cases h; rw [List.append_nil]; rfl
  | c :: r, lv, cur, ws, h => by
    rw [partGo] at h
    split at h
    · cases h
    · split at h
      · rename_i hc
        obtain ⟨zs, h1, rfl⟩ := Option.map_eq_some_iff.mp h
        have ih := partGo_join h1
        rw [List.nil_append] at ih
        cases zs with
        | nil =>
          exfalso
          have : ∀ {r : L} {lv : Int} {cur : L}, partGo lv cur r ≠ some [] := by
            intro r
            induction r with
            | nil => intro lv cur z; cases z
            | cons c r ih =>
              intro lv cur z
              rw [partGo] at z
              split at z
              · cases z
              · split at z
                · obtain ⟨y, _, z⟩ := Option.map_eq_some_iff.mp z
                  cases z
                · exact ih z
          exact this h1
        | cons y t =>
          show cur ++ [32] ++ joinL [32] (y :: t) = _
          rw [ih, hc.1, List.append_assoc]; rfl
      · have ih := partGo_join h
        rw [ih, List.append_assoc]; rfl
theorem parted_joinL {t : L} {ws : List L} (h : parted t = some ws) : joinL [32] ws = t := by
  have := partGo_join h
  rwa [List.nil_append] at this
theorem partGo_nn : ∀ {r : L} {lv : Int} {cur : L}, partGo lv cur r ≠ some [] := by
  intro r
  induction r with
  | nil => intro lv cur z; cases z
  | cons c r ih =>
    intro lv cur z
    rw [partGo] at z
    split at z
    · cases z
    · split at z
      · obtain ⟨y, _, z⟩ := Option.map_eq_some_iff.mp z
        cases z
      · exact ih z
theorem spl_joined (sep : L) (hs : sep ≠ []) : ∀ (r : L) (k : Nat) (cur : L), k ≤ r.length → joinL sep (TL.spl sep k cur r) = cur ++ r.drop k ∧ TL.spl sep k cur r ≠ [] := by
  intro r
  induction r with
  | nil =>
    intro k cur hk
    rw [TL.spl_nil]
    refine ⟨?_, by simp⟩
    show cur = cur ++ [].drop k
    simp
  | cons c r ih =>
    intro k cur hk
    cases k with
    | zero =>
      rw [TL.spl]
      split
      · rename_i hp
        unfold TL.pre at hp
        have hp := eq_of_beq hp
        have hl : sep.length ≤ (c :: r).length := by
          have := congrArg List.length hp
          rw [List.length_take] at this
          omega
        have hsl : 1 ≤ sep.length := by
          cases sep with
          | nil => exact absurd rfl hs
          | cons => simp
        obtain ⟨i1, i2⟩ := ih (sep.length - 1) [] (by simp only [List.length_cons] at hl; omega)
        refine ⟨?_, by simp⟩
        cases hq : TL.spl sep (sep.length - 1) [] r with
        | nil => exact absurd hq i2
        | cons y t =>
          show cur ++ sep ++ joinL sep (y :: t) = _
          rw [← hq, i1, List.nil_append, List.drop_zero]
          have e1 : r.drop (sep.length - 1) = (c :: r).drop sep.length := by
            obtain ⟨m, hm⟩ : ∃ m, sep.length = m + 1 := ⟨sep.length - 1, by omega⟩
            rw [hm]; rfl
          rw [e1, List.append_assoc]
          congr 1
          conv => lhs; rw [← hp]
          rw [hp, ← hp, List.length_take, Nat.min_eq_left hl]
          rw [hp]
          conv => rhs; rw [← List.take_append_drop sep.length (c :: r), hp]
      · obtain ⟨i1, i2⟩ := ih 0 (cur ++ [c]) (Nat.zero_le _)
        refine ⟨?_, i2⟩
        rw [i1, List.drop_zero, List.append_assoc]; rfl
    | succ k =>
      rw [TL.spl]
      exact ih k cur (by simp only [List.length_cons] at hk; omega)
theorem split_joined {sep t : L} (hs : sep ≠ []) : joinL sep (TL.spl sep 0 [] t) = t := by
  have := (spl_joined sep hs t 0 [] (Nat.zero_le _)).1
  rwa [List.nil_append, List.drop_zero] at this
theorem split_ne {sep t : L} (hs : sep ≠ []) : TL.spl sep 0 [] t ≠ [] := (spl_joined sep hs t 0 [] (Nat.zero_le _)).2
theorem mapO_map {α β : Type} {f : α → Option β} {g : β → α} (hfg : ∀ x y, f x = some y → g y = x) : ∀ {xs : List α} {ys : List β}, mapO f xs = some ys → ys.map g = xs
  | [], ys, h => by cases h; rfl
  | x :: r, ys, h => by
    rw [mapO] at h
    cases hx : f x with
    | none => rw [hx] at h; cases h
    | some y =>
      rw [hx] at h
      obtain ⟨zs, h1, rfl⟩ := Option.map_eq_some_iff.mp h
      rw [List.map_cons, hfg x y hx, mapO_map hfg h1]
theorem inner_cut {t : L} (h1 : t.drop (t.length - 1) = [93]) (h2 : 91 ∈ t) : t = ahead 91 t ++ [91] ++ inner t ++ [93] := by
  have hc := ahead_cut h2
  have hl : (ahead 91 t).length + 1 ≤ t.length := by
    have := congrArg List.length hc
    simp only [List.length_append, List.length_cons] at this
    omega
  generalize hw : ahead 91 t = w at *
  generalize hr : t.drop (w.length + 1) = r at *
  have ht : t = w ++ 91 :: r := hc
  have hrn : r ≠ [] := fun z => by
    rw [z] at ht
    have e : t.drop (t.length - 1) = [91] := by
      rw [ht, List.length_append, List.length_singleton, Nat.add_sub_cancel, List.drop_left]
    rw [e] at h1
    cases h1
  rcases List.eq_nil_or_concat r with z | ⟨q, c, z⟩
  · exact absurd z hrn
  rw [List.concat_eq_append] at z
  have ht2 : t = (w ++ 91 :: q) ++ [c] := by rw [ht, z]; simp
  have hc93 : c = 93 := by
    have e : t.drop (t.length - 1) = [c] := by
      rw [ht2, List.length_append, List.length_singleton, Nat.add_sub_cancel, List.drop_left]
    rw [e] at h1
    simpa using h1
  have ei : inner t = q := by
    unfold inner
    rw [hw, ht2, List.length_append, List.length_singleton, Nat.add_sub_cancel, List.take_left]
    have : w ++ 91 :: q = (w ++ [91]) ++ q := by simp
    rw [this]
    exact List.drop_left' (by simp)
  rw [ei, ht2, hc93]
  simp
theorem sh_readExp : ∀ (m : Nat) {t : L} {e : GE}, readExp m t = some e → sh e = t
  | 0, t, e, h => by rw [readExp] at h; cases h
  | m + 1, t, e, h => by
    rw [readExp] at h
    split at h
    · rename_i ht
      cases h
      rw [ht]; rfl
    · split at h
      · obtain ⟨i, hi, rfl⟩ := Option.map_eq_some_iff.mp h
        rw [sh]
        exact dig_readNum hi
      · rename_i h1 h2
        have h2 : t.drop (t.length - 1) = [93] := by simpa using h2
        split at h
        · rename_i k hp
          obtain ⟨ws, hws, h⟩ := Option.bind_eq_some_iff.mp h
          obtain ⟨as, has, rfl⟩ := Option.map_eq_some_iff.mp h
          have h91 : 91 ∈ t := by
            refine Classical.byContradiction fun n => ?_
            have e : ahead 91 t = t := ahead_all n
            rw [e] at hp
            have hs := word_small (parts_word hp).1
            have : 93 ∈ t := List.mem_of_mem_drop (i := t.length - 1) (by rw [h2]; simp)
            have := small_of (hs _ this)
            omega
          have hm := mapO_map (fun x y hxy => sh_readExp m hxy) has
          have hn : as ≠ [] := fun z => by
            rw [z] at hm
            rw [← hm] at hws
            exact partGo_nn hws
          cases as with
          | nil => exact absurd rfl hn
          | cons a r =>
            rw [sh, shs_map, hm, parted_joinL hws]
            exact (inner_cut h2 h91).symm
        · cases h
theorem sh_readStep {t : L} {g : GS} (h : readStep t = some g) : shStep g = t := by
  obtain ⟨ws, hws, hst⟩ := Option.bind_eq_some_iff.mp h
  have hj := parted_joinL hws
  unfold stepOf at hst
  split at hst
  · rename_i e
    cases hst
    rw [e] at hj
    exact hj
  · split at hst
    · rename_i a b c _
      have hj : a ++ [32] ++ (b ++ [32] ++ c) = t := hj
      unfold step3 at hst
      split at hst
      · rename_i ha
        obtain ⟨x, hx, hst⟩ := Option.bind_eq_some_iff.mp hst
        obtain ⟨y, hy, rfl⟩ := Option.map_eq_some_iff.mp hst
        show wCell ++ [32] ++ sh x ++ [32] ++ sh y = t
        rw [sh_readExp 5 hx, sh_readExp 5 hy, ← hj, ha]
        simp only [List.append_assoc]
      · split at hst
        · rename_i ha
          obtain ⟨x, hx, hst⟩ := Option.bind_eq_some_iff.mp hst
          obtain ⟨y, hy, rfl⟩ := Option.map_eq_some_iff.mp hst
          show wSkip ++ [32] ++ sh x ++ [32] ++ dig y = t
          rw [sh_readExp 5 hx, dig_readNum hy, ← hj, ha]
          simp only [List.append_assoc]
        · obtain ⟨y, hy, rfl⟩ := Option.map_eq_some_iff.mp hst
          show a ++ [32] ++ b ++ [32] ++ sh y = t
          rw [sh_readExp 5 hy, ← hj]
          simp only [List.append_assoc]
    · cases hst
theorem sh_readHelper {t : L} {h : Helper} (e : readHelper t = some h) : shHelper h = t := by
  unfold readHelper at e
  split at e
  · rename_i h58
    have hc := ahead_cut h58
    generalize ahead 58 t = nm at *
    generalize t.drop (nm.length + 1) = fu at *
    split at e
    · rename_i hf
      cases e
      rw [hc, hf]; rfl
    · split at e
      · cases e
      · rename_i hf h32
        have h32 : fu.take 1 = [32] := by simpa using h32
        obtain ⟨ss, hss, rfl⟩ := Option.map_eq_some_iff.mp e
        have hm := mapO_map (g := shStep) (fun x y hxy => sh_readStep hxy) hss
        have hj := split_joined (sep := [44, 32]) (t := fu.drop 1) (by simp)
        have hn := split_ne (sep := [44, 32]) (t := fu.drop 1) (by simp)
        have ef : fu = 32 :: fu.drop 1 := by
          cases fu with
          | nil => exact absurd rfl hf
          | cons a r =>
            have : a = 32 := by simpa using h32
            subst this; rfl
        cases ss with
        | nil => exact absurd hm.symm hn
        | cons s r =>
          show nm ++ [58, 32] ++ joinL [44, 32] ((s :: r).map shStep) = t
          rw [hm, hj, hc]
          conv => rhs; rw [ef]
          simp
  · cases e
theorem sh_readRaw {t : L} {p : List Helper} (h : readRaw t = some p) : shProg p = t := by
  unfold readRaw at h
  split at h
  · rename_i e
    cases h
    rw [e]; rfl
  · have hm := mapO_map (g := shHelper) (fun x y hxy => sh_readHelper hxy) h
    unfold shProg
    rw [hm]
    exact split_joined (by simp)
theorem sh_readProg {t : L} {p : List Helper} (h : readProg t = some p) : shProg p = t ∧ isProg p = true := by
  obtain ⟨q, hq, h⟩ := Option.bind_eq_some_iff.mp h
  split at h
  · rename_i e
    cases h
    exact ⟨sh_readRaw hq, e⟩
  · cases h
/-! runs of figures in turned texts; numbers of few figures -/
theorem runs.mono {a b : Nat} {t : L} (h : runs a t) (l : a ≤ b) : runs b t := fun i m k => Nat.le_trans (h i m k) l
theorem runs.app {r s : Nat} {a b : L} (ha : runs r a) (hb : runs s b) : runs (r + s) (a ++ b) := by
  intro i m h
  by_cases h1 : i + m ≤ a.length
  · have := ha i m fun k hk => by
      obtain ⟨d, e, hd⟩ := h k hk
      rw [List.getElem?_append_left (by omega)] at e
      exact ⟨d, e, hd⟩
    omega
  · by_cases h2 : i ≤ a.length
    · have x1 := ha i (a.length - i) fun k hk => by
        obtain ⟨d, e, hd⟩ := h k (by omega)
        rw [List.getElem?_append_left (by omega)] at e
        exact ⟨d, e, hd⟩
      have x2 := hb 0 (m - (a.length - i)) fun k hk => by
        obtain ⟨d, e, hd⟩ := h (a.length - i + k) (by omega)
        rw [List.getElem?_append_right (by omega)] at e
        refine ⟨d, ?_, hd⟩
        rw [← e]
        exact congrArg _ (by omega)
      omega
    · have := hb (i - a.length) m fun k hk => by
        obtain ⟨d, e, hd⟩ := h k hk
        rw [List.getElem?_append_right (by omega)] at e
        refine ⟨d, ?_, hd⟩
        rw [← e]
        exact congrArg _ (by omega)
      omega
theorem runs.map {r : Nat} {a : L} {f : Nat → Nat} (h : runs r a) (hf : ∀ c, isDig (f c) = true → isDig c = true) : runs r (a.map f) := by
  intro i m k
  refine h i m fun j hj => ?_
  obtain ⟨d, e, hd⟩ := k j hj
  rw [List.getElem?_map] at e
  obtain ⟨c, e2, e3⟩ := Option.map_eq_some_iff.mp e
  exact ⟨c, e2, hf c (by rw [e3]; exact hd)⟩
theorem few_of_runs {t : L} {i : Int} (h : readNum t = some i) (r : runs 3800 t) : i.natAbs.log2 < 12900 := by
  unfold readNum at h
  split at h
  · cases h
  split at h
  · cases h
  split at h
  · cases h
  rename_i h1 h2 h3
  have h2' : (figs t).all isDig = true := by simpa using h2
  have hd : AllDigits (figs t) := fun c hc => dig_of (List.all_eq_true.mp h2' c hc)
  have hl : (figs t).length ≤ 3800 := by
    refine runs.all (r.infix ?_) fun c hc => List.all_eq_true.mp h2' c hc
    unfold figs
    split
    · exact (List.drop_suffix _ _).isInfix
    · exact List.infix_refl _
  have hv := digitsVal_lt (figs t) hd
  have e := Option.some.inj h
  have hi : i.natAbs = digitsVal (figs t) := by
    rw [← e]
    split <;> omega
  have hp : 10 ^ (figs t).length ≤ 10 ^ 3800 := Nat.pow_le_pow_right (by decide) hl
  have hq : 10 ^ 3800 ≤ 2 ^ 12900 := by decide +kernel
  exact PySem.Flt.log2_lt_of (by decide) (by rw [hi]; exact Nat.lt_of_lt_of_le hv (Nat.le_trans hp hq))
theorem fews_of {as : List GE} (h : ∀ e ∈ as, e.few) : GE.fews as := by
  induction as with
  | nil => trivial
  | cons a r ih => exact ⟨h a List.mem_cons_self, ih fun e he => h e (List.mem_cons_of_mem _ he)⟩
theorem inner_sub (t : L) : inner t <:+: t := by
  unfold inner
  exact ((List.drop_suffix _ _).isInfix).trans (List.take_prefix _ _).isInfix
theorem few_readExp : ∀ (m : Nat) {t : L} {e : GE}, readExp m t = some e → runs 3800 t → e.few
  | 0, t, e, h, _ => by rw [readExp] at h; cases h
  | m + 1, t, e, h, r => by
    rw [readExp] at h
    split at h
    · cases h
      exact trivial
    · split at h
      · obtain ⟨i, hi, rfl⟩ := Option.map_eq_some_iff.mp h
        exact few_of_runs hi r
      · split at h
        · obtain ⟨ws, hws, h⟩ := Option.bind_eq_some_iff.mp h
          obtain ⟨as, has, rfl⟩ := Option.map_eq_some_iff.mp h
          refine fews_of fun e he => ?_
          obtain ⟨i, hi, es⟩ := List.getElem_of_mem he
          have hl := mapO_len has
          obtain ⟨y, hy, e2⟩ := mapO_get has (List.getElem?_eq_getElem (by rw [← hl]; exact hi))
          rw [List.getElem?_eq_getElem hi, es] at e2
          cases e2
          exact few_readExp m hy (r.infix ((parted_infix hws _ (List.getElem_mem _)).trans (inner_sub t)))
        · cases h
theorem few_readStep {t : L} {g : GS} (h : readStep t = some g) (r : runs 3800 t) : g.few := by
  obtain ⟨ws, hws, hst⟩ := Option.bind_eq_some_iff.mp h
  have hi := parted_infix hws
  unfold stepOf at hst
  split at hst
  · cases hst; trivial
  · split at hst
    · rename_i a b c _
      unfold step3 at hst
      split at hst
      · obtain ⟨x, hx, hst⟩ := Option.bind_eq_some_iff.mp hst
        obtain ⟨y, hy, rfl⟩ := Option.map_eq_some_iff.mp hst
        exact ⟨few_readExp 5 hx (r.infix (hi b (by simp))), few_readExp 5 hy (r.infix (hi c (by simp)))⟩
      · split at hst
        · obtain ⟨x, hx, hst⟩ := Option.bind_eq_some_iff.mp hst
          obtain ⟨y, hy, rfl⟩ := Option.map_eq_some_iff.mp hst
          exact ⟨few_readExp 5 hx (r.infix (hi b (by simp))), few_of_runs hy (r.infix (hi c (by simp)))⟩
        · obtain ⟨y, hy, rfl⟩ := Option.map_eq_some_iff.mp hst
          exact few_readExp 5 hy (r.infix (hi c (by simp)))
    · cases hst
theorem few_readHelper {t : L} {h : Helper} (e : readHelper t = some h) (r : runs 3800 t) : ∀ s ∈ h.2, GS.few s := by
  unfold readHelper at e
  split at e
  · split at e
    · cases e
      intro s hs; cases hs
    · split at e
      · cases e
      · obtain ⟨ss, hss, rfl⟩ := Option.map_eq_some_iff.mp e
        intro s hs
        obtain ⟨i, hi, es⟩ := List.getElem_of_mem hs
        have hl := mapO_len hss
        obtain ⟨y, hy, e2⟩ := mapO_get hss (List.getElem?_eq_getElem (by rw [← hl]; exact hi))
        rw [List.getElem?_eq_getElem hi, es] at e2
        cases e2
        refine few_readStep hy (r.infix ((split_infix _ (List.getElem_mem _)).trans ?_))
        exact ((List.drop_suffix _ _).isInfix).trans (List.drop_suffix _ _).isInfix
  · cases e
theorem few_readRaw {t : L} {p : List Helper} (h : readRaw t = some p) (r : runs 3800 t) : ∀ x ∈ p, ∀ s ∈ x.2, GS.few s := by
  unfold readRaw at h
  split at h
  · cases h
    intro x hx; cases hx
  · intro x hx
    obtain ⟨i, hi, es⟩ := List.getElem_of_mem hx
    have hl := mapO_len h
    obtain ⟨y, hy, e2⟩ := mapO_get h (List.getElem?_eq_getElem (by rw [← hl]; exact hi))
    rw [List.getElem?_eq_getElem hi, es] at e2
    cases e2
    exact few_readHelper hy (r.infix (split_infix _ (List.getElem_mem _)))
/-! at most 22 figures in a row -/
mutual
theorem sh_runs22 : ∀ {m : Nat} {e : GE}, e.ok m = true → e.tiny → runs 22 (sh e)
  | 0, _, h, _ => by simp [GE.ok] at h
  | m + 1, .num i, _, t => runs.short (Nat.le_trans (dig_len t) (by decide))
  | m + 1, .node w as, h, t => by
    rw [GE.ok, Bool.and_eq_true, decide_eq_true_eq] at h
    have hw : ∀ c ∈ w, isDig c = false := fun c hc => small_nodig (word_small (parts_word h.1).1 c hc)
    cases as with
    | nil => exact runs.none hw
    | cons a r =>
      have hs := shs_runs22 (as := a :: r) h.2 t
      rw [sh, List.append_assoc, List.append_assoc]
      exact runs.app_none hw (runs.cons (by decide) (runs.snoc (by decide) (runs.join (by decide) (by decide) hs)))
theorem shs_runs22 : ∀ {m : Nat} {as : List GE}, GE.oks m as = true → GE.tinys as → ∀ x ∈ shs as, runs 22 x
  | _, [], _, _ => fun x hx => by simp [shs] at hx
  | m, e :: r, h, t => fun x hx => by
    rw [GE.oks, Bool.and_eq_true] at h
    rw [shs] at hx
    rcases List.mem_cons.mp hx with rfl | hx
    · exact sh_runs22 h.1 t.1
    · exact shs_runs22 h.2 t.2 x hx
end
theorem step_runs22 {names : List L} {b : Int} {s : GS} (h : s.ok names b = true) (t : s.tiny) : runs 22 (shStep s) := by
  have word : ∀ {w : L}, w ∈ [wArg, wCell, wAdd, wLess, wLeast, wWait, wSkip, wGive, wFork, wCall] → runs 22 w := fun hw => runs.none fun c hc => small_nodig (word_small hw c hc)
  rw [ps_sh]
  refine runs.join (by decide) (by decide) fun x hx => ?_
  cases s with
  | wait =>
    rw [List.mem_singleton.mp hx]
    exact word (w := wWait) (by simp)
  | cell a c =>
    have h : (a.ok 5 && c.ok 5) = true := h
    rw [Bool.and_eq_true] at h
    simp only [GS.ps, List.map_cons, List.map_nil, ptS, List.mem_cons, List.not_mem_nil, or_false] at hx
    rcases hx with rfl | rfl | rfl
    · exact word (by simp)
    · exact sh_runs22 h.1 t.1
    · exact sh_runs22 h.2 t.2
  | skip e m =>
    have h : (e.ok 5 && (decide (1 ≤ m) && decide (m ≤ b))) = true := h
    rw [Bool.and_eq_true] at h
    simp only [GS.ps, List.map_cons, List.map_nil, ptS, List.mem_cons, List.not_mem_nil, or_false] at hx
    rcases hx with rfl | rfl | rfl
    · exact word (by simp)
    · exact sh_runs22 h.1 t.1
    · exact sh_runs22 (m := 1) rfl t.2
  | other w n e =>
    have h : ((decide (w = wGive) || decide (w = wFork) || decide (w = wCall)) && isName n && e.ok 5 && (decide (w = wGive) || decide (n ∈ names))) = true := h
    simp only [Bool.and_eq_true, Bool.or_eq_true, decide_eq_true_eq] at h
    obtain ⟨⟨⟨h1, h2⟩, h3⟩, _⟩ := h
    simp only [GS.ps, List.map_cons, List.map_nil, ptS, List.mem_cons, List.not_mem_nil, or_false] at hx
    rcases hx with rfl | rfl | rfl
    · refine word ?_
      rcases h1 with (h1 | h1) | h1 <;> subst h1 <;> simp
    · unfold isName at h2
      simp only [Bool.and_eq_true, List.all_eq_true] at h2
      exact runs.none fun c hc => small_nodig (h2.2 c hc)
    · exact sh_runs22 h3 t
theorem prog_runs22 {p : List Helper} (h : isProg p = true) (t : ∀ x ∈ p, ∀ s ∈ x.2, s.tiny) : runs 22 (shProg p) := by
  have hp := prog_parts h
  refine runs.join (by decide) (by decide) fun x hx => ?_
  obtain ⟨⟨n, ss⟩, hy, rfl⟩ := List.mem_map.mp hx
  obtain ⟨hn, ho⟩ := hp _ hy
  have hn' : ∀ c ∈ n, isDig c = false := by
    have hn : isName n = true := hn
    unfold isName at hn
    simp only [Bool.and_eq_true, List.all_eq_true] at hn
    exact fun c hc => small_nodig (hn.2 c hc)
  cases ss with
  | nil => exact runs.app_none hn' (runs.none (by decide))
  | cons s r =>
    show runs 22 (n ++ [58, 32] ++ joinL [44, 32] ((s :: r).map shStep))
    rw [List.append_assoc]
    refine runs.app_none hn' (runs.app_none (by decide) (runs.join (by decide) (by decide) fun z hz => ?_))
    obtain ⟨y, hy2, rfl⟩ := List.mem_map.mp hz
    obtain ⟨b, hb⟩ := steps_mem ho y hy2
    exact step_runs22 hb (t _ hy y hy2)
/-! plain signs -/
theorem sgn_asc {c : Nat} (h : sgn c = true) : c < 128 := by
  unfold sgn at h
  simp only [Bool.or_eq_true, decide_eq_true_eq] at h
  rcases h with ((((h | h) | h) | h) | h) | h
  · have := small_of h; omega
  · have := dig_of h; omega
  all_goals omega
theorem prog_asc {p : List Helper} (h : isProg p = true) : ∀ c ∈ shProg p, c < 128 := by
  have hp := prog_parts h
  intro c hc
  rcases mem_joinL hc with z | ⟨x, hx, z⟩
  · simp only [List.mem_cons, List.not_mem_nil, or_false] at z
    omega
  · obtain ⟨⟨n, ss⟩, hy, rfl⟩ := List.mem_map.mp hx
    obtain ⟨hn, ho⟩ := hp _ hy
    have hn' := name_asc hn
    cases ss with
    | nil =>
      have z : c ∈ n ++ [58] := z
      rcases List.mem_append.mp z with z | z
      · exact hn' c z
      · rw [List.mem_singleton.mp z]; decide
    | cons s r =>
      have z : c ∈ n ++ [58, 32] ++ joinL [44, 32] ((s :: r).map shStep) := z
      rcases List.mem_append.mp z with z | z
      · rcases List.mem_append.mp z with z | z
        · exact hn' c z
        · simp only [List.mem_cons, List.not_mem_nil, or_false] at z
          omega
      · rcases mem_joinL z with z | ⟨y, hy2, z⟩
        · simp only [List.mem_cons, List.not_mem_nil, or_false] at z
          omega
        · obtain ⟨g, hg, rfl⟩ := List.mem_map.mp hy2
          obtain ⟨b, hb⟩ := steps_mem ho g hg
          exact sgn_asc (step_sgn hb c z)
end FG
/-! ### MV: the law's own reading, on what is left of a text -/
namespace FG
open PySem PySem.NumText L2
def nodig (r : L) : Prop := ∀ c, r.head? = some c → isDig c = false
def nosmall (r : L) : Prop := ∀ c, r.head? = some c → small c = false
/-- sign and figures at the head -/
def numX (r : L) : L := if r.take 1 = [45] then 45 :: (r.drop 1).takeWhile isDig else r.takeWhile isDig
def numR (r : L) : Option (Int × L) := (readNum (numX r)).map fun i => (i, r.drop (numX r).length)
theorem takeWhile_pre {f : Nat → Bool} (r : L) : r = r.takeWhile f ++ r.drop (r.takeWhile f).length := by
  induction r with
  | nil => rfl
  | cons a t ih =>
    rw [List.takeWhile_cons]
    split
    · rw [List.length_cons, List.drop_succ_cons, List.cons_append, ← ih]
    · rfl
theorem takeWhile_all {f : Nat → Bool} {a : L} (h : ∀ c ∈ a, f c = true) {b : L} (hb : ∀ c, b.head? = some c → f c = false) : (a ++ b).takeWhile f = a := by
  induction a with
  | nil =>
    cases b with
    | nil => rfl
    | cons c t =>
      rw [List.nil_append, List.takeWhile_cons, hb c rfl]
      rfl
  | cons x t ih =>
    rw [List.cons_append, List.takeWhile_cons, h x List.mem_cons_self, if_pos rfl, ih fun c hc => h c (List.mem_cons_of_mem _ hc)]
theorem takeWhile_mem {f : Nat → Bool} : ∀ {r : L}, ∀ c ∈ r.takeWhile f, f c = true
  | a :: t, c, h => by
    rw [List.takeWhile_cons] at h
    split at h
    · rename_i ha
      rcases List.mem_cons.mp h with rfl | h
      · exact ha
      · exact takeWhile_mem c h
    · cases h
theorem numX_pre (r : L) : r = numX r ++ r.drop (numX r).length := by
  unfold numX
  split
  · rename_i h
    cases r with
    | nil => cases h
    | cons a t =>
      have : a = 45 := by simpa using h
      subst this
      show 45 :: t = 45 :: ((t.takeWhile isDig) ++ (45 :: t).drop ((45 :: t.takeWhile isDig).length))
      rw [List.length_cons, List.drop_succ_cons, ← takeWhile_pre t]
  · exact takeWhile_pre r
theorem numX_dig {i : Int} {rest : L} (hr : nodig rest) : numX (dig i ++ rest) = dig i := by
  unfold numX
  rcases dig_cases i with ⟨n, _, e⟩ | ⟨n, _, e⟩
  · rw [e]
    have h : (nd n ++ rest).take 1 ≠ [45] := by
      cases hn : nd n with
      | nil => exact absurd hn (nd_ne n)
      | cons a t =>
        intro z
        have : a = 45 := by simpa using z
        have hd := nd_dig (n := n) a (by rw [hn]; exact List.mem_cons_self)
        rw [this] at hd
        revert hd; decide
    rw [if_neg h]
    exact takeWhile_all nd_dig hr
  · rw [e]
    have h : (45 :: nd (n + 1) ++ rest).take 1 = [45] := rfl
    rw [if_pos h]
    show 45 :: (nd (n + 1) ++ rest).takeWhile isDig = _
    rw [takeWhile_all nd_dig hr]
theorem numR_dig {i : Int} {rest : L} (hr : nodig rest) : numR (dig i ++ rest) = some (i, rest) := by
  unfold numR
  rw [numX_dig hr, readNum_dig]
  show some (i, (dig i ++ rest).drop (dig i).length) = _
  rw [List.drop_left]
theorem dig_numR {r r' : L} {i : Int} (h : numR r = some (i, r')) : r = dig i ++ r' := by
  obtain ⟨j, hj, e⟩ := Option.map_eq_some_iff.mp h
  injection e with e1 e2
  subst e1
  rw [dig_readNum hj, ← e2]
  exact numX_pre r
/-! expressions: a word with many parts -/
def argsR (f : L → Option (GE × L)) : Nat → Bool → L → Option (List GE × L)
  | 0, _, r => some ([], r)
  | n + 1, first, r => if first = false ∧ r.take 1 ≠ [32] then none else
    match f (if first = true then r else r.drop 1) with
    | none => none
    | some (a, r1) => match argsR f n false r1 with
      | none => none
      | some (as, r2) => some (a :: as, r2)
def wordsR : List (L × Nat) := [(wCell, 1), (wAdd, 2), (wLess, 2), (wLeast, 2)]
def nodeR (f : L → Option (GE × L)) (w : L) (k : Nat) (r : L) : Option (GE × L) :=
  match argsR f k true (r.drop (w.length + 1)) with
  | none => none
  | some (as, r1) => if r1.take 1 = [93] then some (.node w as, r1.drop 1) else none
def pickR (f : L → Option (GE × L)) (r : L) : List (L × Nat) → Option (GE × L)
  | [] => (numR r).map fun x => (.num x.1, x.2)
  | (w, k) :: t => if r.take (w.length + 1) = w ++ [91] then nodeR f w k r else pickR f r t
def exprR : Nat → L → Option (GE × L)
  | 0, _ => none
  | m + 1, r => if r.take 3 = wArg then some (.node wArg [], r.drop 3) else pickR (exprR m) r wordsR
theorem take_pre {r w : L} (h : r.take w.length = w) : r = w ++ r.drop w.length := by
  conv => lhs; rw [← List.take_append_drop w.length r, h]
theorem take1 {r : L} {c : Nat} (h : r.take 1 = [c]) : r = c :: r.drop 1 := by
  cases r with
  | nil => cases h
  | cons a t =>
    have : a = c := by simpa using h
    subst this; rfl
/-- what is read is written so -/
theorem argsR_sound {m : Nat} (hf : ∀ r e r', exprR m r = some (e, r') → r = sh e ++ r' ∧ e.ok m = true) : ∀ {n : Nat} {b : Bool} {r : L} {as : List GE} {r' : L}, argsR (exprR m) n b r = some (as, r') →
    as.length = n ∧ GE.oks m as = true ∧ (as ≠ [] → r = (if b = true then [] else [32]) ++ joinL [32] (shs as) ++ r') ∧ (as = [] → r = r')
  | 0, b, r, as, r', h => by
    cases h
    exact ⟨rfl, rfl, fun z => absurd rfl z, fun _ => rfl⟩
  | n + 1, b, r, as, r', h => by
    rw [argsR] at h
    split at h
    · cases h
    rename_i hb
    cases hx : exprR m (if b = true then r else r.drop 1) with
    | none => rw [hx] at h; cases h
    | some x =>
      obtain ⟨a, r1⟩ := x
      rw [hx] at h
      have h : (match argsR (exprR m) n false r1 with | none => none | some (as, r2) => some (a :: as, r2)) = some (as, r') := h
      obtain ⟨h1, h2⟩ := hf _ _ _ hx
      cases hy : argsR (exprR m) n false r1 with
      | none => rw [hy] at h; cases h
      | some y =>
        obtain ⟨bs, r2⟩ := y
        rw [hy] at h
        have h : some (a :: bs, r2) = some (as, r') := h
        cases h
        obtain ⟨i1, i2, i3, i4⟩ := argsR_sound hf hy
        refine ⟨by rw [List.length_cons, i1], by rw [GE.oks, h2, i2]; rfl, fun _ => ?_, fun z => by cases z⟩
        have hr : r = (if b = true then [] else [32]) ++ (sh a ++ r1) := by
          cases b with
          | true =>
            rw [if_pos rfl] at h1 ⊢
            exact h1
          | false =>
            rw [if_neg Bool.false_ne_true] at h1 ⊢
            have : r.take 1 = [32] := Classical.byContradiction fun z => hb ⟨rfl, z⟩
            rw [take1 this, h1]; rfl
        rw [hr]
        cases bs with
        | nil =>
          rw [i4 rfl]
          simp [shs, joinL]
        | cons c t =>
          have h9 := i3 (by simp)
          rw [if_neg Bool.false_ne_true] at h9
          rw [h9]
          show _ = _ ++ (sh a ++ [32] ++ joinL [32] (shs (c :: t))) ++ r'
          simp only [List.append_assoc]
theorem parts_R : ∀ x ∈ wordsR, parts x.1 = some x.2 ∧ 1 ≤ x.2 := by decide
theorem pickR_sound {m : Nat} (hf : ∀ r e r', exprR m r = some (e, r') → r = sh e ++ r' ∧ e.ok m = true) {r : L} {e : GE} {r' : L} : ∀ {ws : List (L × Nat)}, (∀ x ∈ ws, x ∈ wordsR) → pickR (exprR m) r ws = some (e, r') → r = sh e ++ r' ∧ e.ok (m + 1) = true
  | [], _, h => by
    obtain ⟨x, hx, z⟩ := Option.map_eq_some_iff.mp h
    injection z with z1 z2
    subst z1 z2
    exact ⟨by rw [sh]; exact dig_numR (r' := x.2) (i := x.1) hx, rfl⟩
  | (w, k) :: t, hw, h => by
    rw [pickR] at h
    split at h
    · rename_i hp
      obtain ⟨p1, p2⟩ := parts_R _ (hw (w, k) List.mem_cons_self)
      unfold nodeR at h
      cases hx : argsR (exprR m) k true (r.drop (w.length + 1)) with
      | none => rw [hx] at h; cases h
      | some x =>
        obtain ⟨as, r1⟩ := x
        rw [hx] at h
        have h : (if r1.take 1 = [93] then some (GE.node w as, r1.drop 1) else none) = some (e, r') := h
        split at h
        · rename_i h93
          cases h
          obtain ⟨i1, i2, i3, _⟩ := argsR_sound hf hx
          have hn : as ≠ [] := fun z => by rw [z] at i1; have h0 : 1 ≤ k := p2; rw [← i1] at h0; cases h0
          have i3 := i3 hn
          rw [if_pos rfl, List.nil_append] at i3
          have hr : r = (w ++ [91]) ++ r.drop (w ++ [91]).length := take_pre (by rw [List.length_append]; exact hp)
          rw [List.length_append, List.length_singleton] at hr
          refine ⟨?_, ?_⟩
          · rw [hr, i3, take1 h93]
            cases as with
            | nil => exact absurd rfl hn
            | cons a t =>
              rw [sh]
              simp only [List.append_assoc, List.cons_append, List.nil_append, List.drop_succ_cons, List.drop_zero]
          · rw [GE.ok, i2, i1, decide_eq_true p1]; rfl
        · cases h
    · exact pickR_sound hf (fun x hx => hw x (List.mem_cons_of_mem _ hx)) h
theorem exprR_sound : ∀ (m : Nat) (r : L) (e : GE) (r' : L), exprR m r = some (e, r') → r = sh e ++ r' ∧ e.ok m = true
  | 0, _, _, _, h => by cases h
  | m + 1, r, e, r', h => by
    rw [exprR] at h
    split at h
    · rename_i ha
      cases h
      refine ⟨take_pre (w := wArg) ha, ?_⟩
      rw [GE.ok, show parts wArg = some ([] : List GE).length by decide, decide_eq_true rfl]
      rfl
    · exact pickR_sound (exprR_sound m) (fun _ hx => hx) h
end FG
/-! ### MW: the law's own reading reads what is written, and nothing else -/
namespace FG
open PySem PySem.NumText L2
theorem small_noHead {w X : L} (h : w ≠ []) (hs : ∀ c ∈ w, small c = true) {r : L} (hr : nosmall r) {k : Nat} : r.take (w.length + k) ≠ w ++ X := by
  intro z
  cases w with
  | nil => exact h rfl
  | cons a t =>
    cases r with
    | nil => rw [List.take_nil] at z; cases z
    | cons b u =>
      rw [List.length_cons, show t.length + 1 + k = (t.length + k) + 1 by omega, List.take_succ_cons, List.cons_append] at z
      injection z with z1 _
      have := hr b rfl
      rw [z1, hs a List.mem_cons_self] at this
      cases this
theorem words_R : ∀ x ∈ wordsR, x.1 ≠ [] ∧ (∀ c ∈ x.1, small c = true) ∧ 3 ≤ x.1.length ∧ x.1.take 3 ≠ wArg := by decide
theorem pickR_num {f : L → Option (GE × L)} {r : L} (hr : nosmall r) : ∀ {ws : List (L × Nat)}, (∀ x ∈ ws, x ∈ wordsR) → pickR f r ws = (numR r).map fun x => (.num x.1, x.2)
  | [], _ => rfl
  | (w, k) :: t, hw => by
    obtain ⟨h1, h2, _⟩ := words_R _ (hw (w, k) List.mem_cons_self)
    rw [pickR, if_neg (small_noHead h1 h2 hr)]
    exact pickR_num hr fun x hx => hw x (List.mem_cons_of_mem _ hx)
theorem pickR_word {f : L → Option (GE × L)} {w : L} {k : Nat} {X : L} : ∀ {ws : List (L × Nat)}, (∀ x ∈ ws, x ∈ wordsR) → (w, k) ∈ ws → pickR f (w ++ 91 :: X) ws = nodeR f w k (w ++ 91 :: X)
  | (v, j) :: t, hw, hm => by
    have sm : ∀ x ∈ wordsR, 91 ∉ x.1 := by decide
    rw [pickR]
    split
    · rename_i he
      have e1 : w ++ 91 :: X = (v ++ [91]) ++ (w ++ 91 :: X).drop (v ++ [91]).length := take_pre (by rw [List.length_append]; exact he)
      have e2 : ahead 91 (w ++ 91 :: X) = w := by
        have hwv : (w, k) ∈ wordsR := hw _ hm
        exact ahead_app (sm _ hwv)
      have e3 : ahead 91 ((v ++ [91]) ++ (w ++ 91 :: X).drop (v ++ [91]).length) = v := by
        rw [List.append_assoc]
        exact ahead_app (sm _ (hw (v, j) List.mem_cons_self))
      rw [← e1, e2] at e3
      subst e3
      have h1 := (parts_R _ (hw (w, j) List.mem_cons_self)).1
      have h2 := (parts_R _ (hw _ hm)).1
      rw [h1] at h2
      have h4 : j = k := Option.some.inj h2
      rw [h4]
    · rename_i he
      rcases List.mem_cons.mp hm with e | hm
      · cases e
        exfalso
        refine he ?_
        have : w ++ 91 :: X = (w ++ [91]) ++ X := by simp
        rw [this, show w.length + 1 = (w ++ [91]).length by simp, List.take_left]
      · exact pickR_word (fun x hx => hw x (List.mem_cons_of_mem _ hx)) hm
theorem parts_wordsR {w : L} {n : Nat} (h : parts w = some (n + 1)) : (w, n + 1) ∈ wordsR := by
  unfold parts at h
  split at h
  · cases h
  split at h
  · rename_i e; cases h; rw [e]; simp [wordsR]
  split at h
  · rename_i e; cases h; rw [e]; simp [wordsR]
  split at h
  · rename_i e; cases h; rw [e]; simp [wordsR]
  split at h
  · rename_i e; cases h; rw [e]; simp [wordsR]
  · cases h
theorem argsR_complete {m : Nat} (hf : ∀ e rest, GE.ok m e = true → nodig rest → exprR m (sh e ++ rest) = some (e, rest)) : ∀ {as : List GE} {b : Bool} {rest : L}, GE.oks m as = true → as ≠ [] →
    argsR (exprR m) as.length b ((if b = true then [] else [32]) ++ joinL [32] (shs as) ++ 93 :: rest) = some (as, 93 :: rest)
  | [], b, rest, _, hn => absurd rfl hn
  | a :: t, b, rest, h, _ => by
    rw [GE.oks, Bool.and_eq_true] at h
    have n93 : nodig (93 :: rest) := fun c hc => by
      have : c = 93 := by simpa using hc.symm
      subst this; decide
    have n32 : ∀ X : L, nodig (32 :: X) := fun X c hc => by
      have : c = 32 := by simpa using hc.symm
      subst this; decide
    -- what stands behind a
    obtain ⟨tail, ht, hj⟩ : ∃ tail, nodig tail ∧ joinL [32] (shs (a :: t)) ++ 93 :: rest = sh a ++ tail ∧ (t = [] → tail = 93 :: rest) ∧ (t ≠ [] → tail = [32] ++ joinL [32] (shs t) ++ 93 :: rest) := by
      cases t with
      | nil => exact ⟨93 :: rest, n93, by simp [shs, joinL], fun _ => rfl, fun z => absurd rfl z⟩
      | cons c u =>
        refine ⟨[32] ++ joinL [32] (shs (c :: u)) ++ 93 :: rest, ?_, ?_, fun z => (by cases z), fun _ => rfl⟩
        · rw [List.append_assoc]; exact n32 _
        · show sh a ++ [32] ++ joinL [32] (shs (c :: u)) ++ 93 :: rest = _
          simp only [List.append_assoc]
    obtain ⟨hj1, hj2, hj3⟩ := hj
    rw [List.length_cons, argsR]
    have e1 : (if b = true then ((if b = true then [] else [32]) ++ joinL [32] (shs (a :: t)) ++ 93 :: rest) else ((if b = true then [] else [32]) ++ joinL [32] (shs (a :: t)) ++ 93 :: rest).drop 1) = sh a ++ tail := by
      cases b with
      | true =>
        rw [if_pos rfl, if_pos rfl, List.nil_append]
        exact hj1
      | false =>
        rw [if_neg Bool.false_ne_true, if_neg Bool.false_ne_true, List.append_assoc]
        exact hj1
    have e0 : ¬ (b = false ∧ ((if b = true then [] else [32]) ++ joinL [32] (shs (a :: t)) ++ 93 :: rest).take 1 ≠ [32]) := by
      rintro ⟨rfl, z⟩
      refine z ?_
      rw [if_neg Bool.false_ne_true, List.append_assoc]; rfl
    rw [if_neg e0, e1, hf a tail h.1 ht]
    show (match argsR (exprR m) t.length false tail with | none => none | some (as, r2) => some (a :: as, r2)) = _
    cases t with
    | nil => rw [hj2 rfl]; rfl
    | cons c u =>
      have ih := argsR_complete hf (as := c :: u) (b := false) (rest := rest) h.2 (by simp)
      rw [if_neg Bool.false_ne_true] at ih
      rw [hj3 (by simp), ih]
theorem exprR_complete : ∀ (m : Nat) (e : GE) (rest : L), e.ok m = true → nodig rest → exprR m (sh e ++ rest) = some (e, rest)
  | 0, e, rest, h, _ => by simp [GE.ok] at h
  | m + 1, .num i, rest, _, hr => by
    have hns : nosmall (dig i ++ rest) := fun c hc => by
      cases hd : dig i with
      | nil => exact absurd hd (dig_ne i)
      | cons a t =>
        rw [hd] at hc
        have : c = a := by simpa using hc.symm
        subst this
        rcases dig_nosmall i c (by rw [hd]; exact List.mem_cons_self) with z | z
        · subst z; decide
        · have := dig_of z
          cases hs : small c with
          | false => rfl
          | true => have := small_of hs; omega
    rw [sh, exprR]
    have h3 : (dig i ++ rest).take 3 ≠ wArg := by
      have := small_noHead (w := wArg) (X := []) (k := 0) (by decide) (by decide) hns
      rw [List.append_nil] at this
      exact this
    rw [if_neg h3, pickR_num hns fun _ hx => hx, numR_dig hr]
    rfl
  | m + 1, .node w as, rest, h, hr => by
    rw [GE.ok, Bool.and_eq_true, decide_eq_true_eq] at h
    cases as with
    | nil =>
      have e := parts_zero h.1
      subst e
      rw [sh, exprR]
      have : (wArg ++ rest).take 3 = wArg := by
        show (wArg ++ rest).take wArg.length = wArg
        exact List.take_left
      rw [if_pos this]
      show some (GE.node wArg [], (wArg ++ rest).drop wArg.length) = _
      rw [List.drop_left]
    | cons a t =>
      have hm := parts_wordsR (w := w) (n := t.length) h.1
      obtain ⟨w1, w2, w3, w4⟩ := words_R _ hm
      have es : sh (.node w (a :: t)) ++ rest = w ++ 91 :: (joinL [32] (shs (a :: t)) ++ 93 :: rest) := by rw [sh]; simp
      rw [es, exprR]
      have h3 : (w ++ 91 :: (joinL [32] (shs (a :: t)) ++ 93 :: rest)).take 3 ≠ wArg := by
        rw [List.take_append_of_le_length w3]
        exact w4
      rw [if_neg h3, pickR_word (fun _ hx => hx) hm]
      unfold nodeR
      have ed : (w ++ 91 :: (joinL [32] (shs (a :: t)) ++ 93 :: rest)).drop (w.length + 1) = joinL [32] (shs (a :: t)) ++ 93 :: rest := by
        rw [show w ++ 91 :: (joinL [32] (shs (a :: t)) ++ 93 :: rest) = (w ++ [91]) ++ (joinL [32] (shs (a :: t)) ++ 93 :: rest) by simp]
        exact List.drop_left' (by simp)
      have ha := argsR_complete (exprR_complete m) (as := a :: t) (b := true) (rest := rest) h.2 (by simp)
      rw [if_pos rfl, List.nil_append, List.length_cons] at ha
      rw [ed, ha]
      rfl
/-! steps -/
def stepR (r : L) : Option (GS × L) :=
  if r.takeWhile small = wWait then some (.wait, r.drop (r.takeWhile small).length)
  else if ¬ (r.takeWhile small ∈ [wCell, wGive, wFork, wCall, wSkip]) ∨ (r.drop (r.takeWhile small).length).take 1 ≠ [32] then none
  else if r.takeWhile small = wCell then
    (exprR 5 ((r.drop (r.takeWhile small).length).drop 1)).bind fun x => if x.2.take 1 ≠ [32] then none else (exprR 5 (x.2.drop 1)).map fun y => (.cell x.1 y.1, y.2)
  else if r.takeWhile small = wSkip then
    (exprR 5 ((r.drop (r.takeWhile small).length).drop 1)).bind fun x => if x.2.take 1 ≠ [32] then none else (numR (x.2.drop 1)).map fun y => (.skip x.1 y.1, y.2)
  else if (((r.drop (r.takeWhile small).length).drop 1).drop (((r.drop (r.takeWhile small).length).drop 1).takeWhile small).length).take 1 ≠ [32] then none
  else (exprR 5 ((((r.drop (r.takeWhile small).length).drop 1).drop (((r.drop (r.takeWhile small).length).drop 1).takeWhile small).length).drop 1)).map fun y =>
    (.other (r.takeWhile small) (((r.drop (r.takeWhile small).length).drop 1).takeWhile small) y.1, y.2)
theorem stepR_sound {r r' : L} {g : GS} (h : stepR r = some (g, r')) : r = shStep g ++ r' ∧ g.plain := by
  unfold stepR at h
  have hr := takeWhile_pre (f := small) r
  generalize r.takeWhile small = w at *
  split at h
  · rename_i e
    cases h
    rw [e] at hr ⊢
    exact ⟨hr, trivial⟩
  split at h
  · cases h
  rename_i hw0 hw1
  have hin : w ∈ [wCell, wGive, wFork, wCall, wSkip] := Classical.byContradiction fun z => hw1 (.inl z)
  have h32 : (r.drop w.length).take 1 = [32] := Classical.byContradiction fun z => hw1 (.inr z)
  have hr2 := take1 h32
  generalize r.drop w.length = r1 at *
  generalize r1.drop 1 = r2 at *
  split at h
  · rename_i e
    obtain ⟨x, hx, h⟩ := Option.bind_eq_some_iff.mp h
    split at h
    · cases h
    rename_i hx32
    have hx32 := take1 (Classical.byContradiction hx32)
    obtain ⟨y, hy, h⟩ := Option.map_eq_some_iff.mp h
    injection h with h1 h2
    subst h1 h2
    obtain ⟨x1, _⟩ := exprR_sound 5 _ _ _ hx
    obtain ⟨y1, _⟩ := exprR_sound 5 _ _ _ hy
    refine ⟨?_, trivial⟩
    rw [hr, hr2, x1, hx32, y1, e]
    show _ = wCell ++ [32] ++ sh x.1 ++ [32] ++ sh y.1 ++ y.2
    simp
  rename_i hc
  split at h
  · rename_i e
    obtain ⟨x, hx, h⟩ := Option.bind_eq_some_iff.mp h
    split at h
    · cases h
    rename_i hx32
    have hx32 := take1 (Classical.byContradiction hx32)
    obtain ⟨y, hy, h⟩ := Option.map_eq_some_iff.mp h
    injection h with h1 h2
    subst h1 h2
    obtain ⟨x1, _⟩ := exprR_sound 5 _ _ _ hx
    have y1 := dig_numR (r' := y.2) (i := y.1) hy
    refine ⟨?_, trivial⟩
    rw [hr, hr2, x1, hx32, y1, e]
    show _ = wSkip ++ [32] ++ sh x.1 ++ [32] ++ dig y.1 ++ y.2
    simp
  rename_i hk
  split at h
  · cases h
  rename_i h3
  have hn := takeWhile_pre (f := small) r2
  generalize r2.takeWhile small = n at *
  have h3 := take1 (Classical.byContradiction h3)
  obtain ⟨y, hy, h⟩ := Option.map_eq_some_iff.mp h
  injection h with h1 h2
  subst h1 h2
  obtain ⟨y1, _⟩ := exprR_sound 5 _ _ _ hy
  refine ⟨?_, ⟨hc, hk⟩⟩
  rw [hr, hr2, hn, h3, y1]
  show _ = w ++ [32] ++ n ++ [32] ++ sh y.1 ++ y.2
  simp
theorem stepR_complete {names : List L} {b : Int} {s : GS} {rest : L} (h : s.ok names b = true) (h1 : nodig rest) (h2 : nosmall rest) : stepR (shStep s ++ rest) = some (s, rest) := by
  have sm32 : ∀ X : L, nosmall (32 :: X) := fun X c hc => by
    have : c = 32 := by simpa using hc.symm
    subst this; decide
  have nd32 : ∀ X : L, nodig (32 :: X) := fun X c hc => by
    have : c = 32 := by simpa using hc.symm
    subst this; decide
  have hd : ∀ w X : L, (∀ c ∈ w, small c = true) → (w ++ 32 :: X).takeWhile small = w ∧ (w ++ 32 :: X).drop w.length = 32 :: X := fun w X hw => ⟨takeWhile_all hw (sm32 X), List.drop_left⟩
  cases s with
  | wait =>
    have e : (wWait ++ rest).takeWhile small = wWait := takeWhile_all (by decide) h2
    show stepR (wWait ++ rest) = _
    unfold stepR
    rw [e, if_pos rfl, List.drop_left]
  | cell x y =>
    have h : (x.ok 5 && y.ok 5) = true := h
    rw [Bool.and_eq_true] at h
    have es : shStep (.cell x y) ++ rest = wCell ++ 32 :: (sh x ++ 32 :: (sh y ++ rest)) := by
      show wCell ++ [32] ++ sh x ++ [32] ++ sh y ++ rest = _
      simp
    obtain ⟨e1, e2⟩ := hd wCell (sh x ++ 32 :: (sh y ++ rest)) (by decide)
    rw [es]
    unfold stepR
    rw [e1, e2, if_neg (by decide), if_neg (by rintro (z | z); exact z (by decide); exact z rfl), if_pos rfl]
    show (exprR 5 (sh x ++ 32 :: (sh y ++ rest))).bind _ = _
    rw [exprR_complete 5 x _ h.1 (nd32 _)]
    show (if (32 :: (sh y ++ rest)).take 1 ≠ [32] then none else (exprR 5 (sh y ++ rest)).map fun z => (GS.cell x z.1, z.2)) = _
    rw [if_neg (fun z => z rfl), exprR_complete 5 y _ h.2 h1]
    rfl
  | skip x m =>
    have h : (x.ok 5 && (decide (1 ≤ m) && decide (m ≤ b))) = true := h
    rw [Bool.and_eq_true] at h
    have es : shStep (.skip x m) ++ rest = wSkip ++ 32 :: (sh x ++ 32 :: (dig m ++ rest)) := by
      show wSkip ++ [32] ++ sh x ++ [32] ++ dig m ++ rest = _
      simp
    obtain ⟨e1, e2⟩ := hd wSkip (sh x ++ 32 :: (dig m ++ rest)) (by decide)
    rw [es]
    unfold stepR
    rw [e1, e2, if_neg (by decide), if_neg (by rintro (z | z); exact z (by decide); exact z rfl), if_neg (by decide), if_pos rfl]
    show (exprR 5 (sh x ++ 32 :: (dig m ++ rest))).bind _ = _
    rw [exprR_complete 5 x _ h.1 (nd32 _)]
    show (if (32 :: (dig m ++ rest)).take 1 ≠ [32] then none else (numR (dig m ++ rest)).map fun z => (GS.skip x z.1, z.2)) = _
    rw [if_neg (fun z => z rfl), numR_dig h1]
    rfl
  | other w n e =>
    have h : ((decide (w = wGive) || decide (w = wFork) || decide (w = wCall)) && isName n && e.ok 5 && (decide (w = wGive) || decide (n ∈ names))) = true := h
    simp only [Bool.and_eq_true, Bool.or_eq_true, decide_eq_true_eq] at h
    obtain ⟨⟨⟨hw, hn⟩, he⟩, _⟩ := h
    have hns : ∀ c ∈ n, small c = true := by
      unfold isName at hn
      simp only [Bool.and_eq_true, List.all_eq_true] at hn
      exact hn.2
    have hws : (∀ c ∈ w, small c = true) ∧ w ≠ wWait ∧ w ∈ [wCell, wGive, wFork, wCall, wSkip] ∧ w ≠ wCell ∧ w ≠ wSkip := by
      rcases hw with (hw | hw) | hw <;> subst hw <;> decide
    have es : shStep (.other w n e) ++ rest = w ++ 32 :: (n ++ 32 :: (sh e ++ rest)) := by
      show w ++ [32] ++ n ++ [32] ++ sh e ++ rest = _
      simp
    obtain ⟨e1, e2⟩ := hd w (n ++ 32 :: (sh e ++ rest)) hws.1
    obtain ⟨e3, e4⟩ := hd n (sh e ++ rest) hns
    rw [es]
    unfold stepR
    rw [e1, e2, if_neg hws.2.1, if_neg (by rintro (z | z); exact z hws.2.2.1; exact z rfl), if_neg hws.2.2.2.1, if_neg hws.2.2.2.2]
    show (if ((n ++ 32 :: (sh e ++ rest)).drop ((n ++ 32 :: (sh e ++ rest)).takeWhile small).length).take 1 ≠ [32] then none else (exprR 5 (((n ++ 32 :: (sh e ++ rest)).drop ((n ++ 32 :: (sh e ++ rest)).takeWhile small).length).drop 1)).map fun y => (GS.other w ((n ++ 32 :: (sh e ++ rest)).takeWhile small) y.1, y.2)) = _
    rw [e3, e4, if_neg (fun z => z rfl)]
    show (exprR 5 (sh e ++ rest)).map _ = _
    rw [exprR_complete 5 e _ he h1]
    rfl
/-! helpers -/
def stepsR : Nat → Bool → L → Option (List GS × L)
  | 0, _, _ => none
  | k + 1, first, r => if r.take 1 = (if first = true then [32] else [44]) then
      match stepR (r.drop (if first = true then 1 else 2)) with
      | none => none
      | some (g, r1) => if first = false ∧ r.take 2 ≠ [44, 32] then none else (stepsR k false r1).map fun x => (g :: x.1, x.2)
    else some ([], r)
def helperR (r : L) : Option (Helper × L) :=
  if (r.drop (r.takeWhile small).length).take 1 ≠ [58] then none
  else (stepsR (r.length + 1) true ((r.drop (r.takeWhile small).length).drop 1)).map fun x => ((r.takeWhile small, x.1), x.2)
def rawR : Nat → L → Option (List Helper)
  | 0, _ => none
  | k + 1, r => match helperR r with
    | none => none
    | some (h, r1) => if r1 = [] then some [h] else if r1.take 2 ≠ [59, 32] then none else (rawR k (r1.drop 2)).map fun p => h :: p
def lawRaw (t : L) : Option (List Helper) := if t = [] then some [] else rawR (t.length + 1) t
def lawRead (t : L) : Option (List Helper) := (lawRaw t).bind fun p => if isProg p = true then some p else none
theorem stepsR_sound : ∀ {k : Nat} {first : Bool} {r : L} {ss : List GS} {r' : L}, stepsR k first r = some (ss, r') → (∀ s ∈ ss, s.plain) ∧ (ss = [] → r = r') ∧ (ss ≠ [] → r = (if first = true then [32] else [44, 32]) ++ joinL [44, 32] (ss.map shStep) ++ r')
  | 0, _, _, _, _, h => by cases h
  | k + 1, first, r, ss, r', h => by
    rw [stepsR] at h
    by_cases hh : r.take 1 = (if first = true then [32] else [44])
    · rw [if_pos hh] at h
      cases hs : stepR (r.drop (if first = true then 1 else 2)) with
      | none => rw [hs] at h; cases h
      | some x =>
        obtain ⟨g, r1⟩ := x
        rw [hs] at h
        have h : (if first = false ∧ r.take 2 ≠ [44, 32] then none else (stepsR k false r1).map fun x => (g :: x.1, x.2)) = some (ss, r') := h
        split at h
        · cases h
        rename_i h2
        obtain ⟨y, hy, h⟩ := Option.map_eq_some_iff.mp h
        injection h with e1 e2
        subst e1 e2
        obtain ⟨g1, g2⟩ := stepR_sound hs
        obtain ⟨i1, i2, i3⟩ := stepsR_sound hy
        refine ⟨fun s hs => ?_, fun z => (by cases z), fun _ => ?_⟩
        · rcases List.mem_cons.mp hs with rfl | hs
          · exact g2
          · exact i1 s hs
        have hr : r = (if first = true then [32] else [44, 32]) ++ (shStep g ++ r1) := by
          cases first with
          | true =>
            rw [if_pos rfl] at hh g1 ⊢
            rw [take1 hh, g1]; rfl
          | false =>
            rw [if_neg Bool.false_ne_true] at g1 ⊢
            have h3 : r.take 2 = [44, 32] := Classical.byContradiction fun z => h2 ⟨rfl, z⟩
            have h4 := take_pre (w := [44, 32]) h3
            rw [← g1]
            exact h4
        rw [hr]
        obtain ⟨ys, yr⟩ := y
        cases ys with
        | nil =>
          have := i2 rfl
          rw [this]
          simp [joinL]
        | cons c t =>
          have h9 := i3 (by simp)
          rw [if_neg Bool.false_ne_true] at h9
          have h9 : r1 = [44, 32] ++ joinL [44, 32] ((c :: t).map shStep) ++ yr := h9
          rw [h9]
          show _ = _ ++ (shStep g ++ [44, 32] ++ joinL [44, 32] ((c :: t).map shStep)) ++ yr
          simp only [List.append_assoc]
    · rw [if_neg hh] at h
      cases h
      exact ⟨fun s hs => (by cases hs), fun _ => rfl, fun z => absurd rfl z⟩
theorem helperR_sound {r r' : L} {h : Helper} (e : helperR r = some (h, r')) : r = shHelper h ++ r' ∧ ∀ s ∈ h.2, s.plain := by
  unfold helperR at e
  have hr := takeWhile_pre (f := small) r
  generalize r.takeWhile small = w at *
  split at e
  · cases e
  rename_i h58
  have h58 := take1 (Classical.byContradiction h58)
  obtain ⟨x, hx, e⟩ := Option.map_eq_some_iff.mp e
  injection e with e1 e2
  subst e1 e2
  obtain ⟨i1, i2, i3⟩ := stepsR_sound hx
  refine ⟨?_, i1⟩
  obtain ⟨xs, xr⟩ := x
  cases xs with
  | nil =>
    have := i2 rfl
    rw [hr, h58, this]
    show _ = w ++ [58] ++ xr
    simp
  | cons c t =>
    have h9 := i3 (by simp)
    rw [if_pos rfl] at h9
    rw [hr, h58, h9]
    show _ = w ++ [58, 32] ++ joinL [44, 32] ((c :: t).map shStep) ++ xr
    simp
theorem rawR_sound : ∀ {k : Nat} {r : L} {p : List Helper}, rawR k r = some p → p ≠ [] ∧ joinL [59, 32] (p.map shHelper) = r ∧ ∀ h ∈ p, ∀ s ∈ h.2, s.plain
  | 0, _, _, h => by cases h
  | k + 1, r, p, h => by
    rw [rawR] at h
    cases hh : helperR r with
    | none => rw [hh] at h; cases h
    | some x =>
      obtain ⟨g, r1⟩ := x
      rw [hh] at h
      have h : (if r1 = [] then some [g] else if r1.take 2 ≠ [59, 32] then none else (rawR k (r1.drop 2)).map fun p => g :: p) = some p := h
      obtain ⟨g1, g2⟩ := helperR_sound hh
      split at h
      · rename_i hn
        cases h
        rw [hn, List.append_nil] at g1
        exact ⟨by simp, g1.symm, fun x hx => by rw [List.mem_singleton.mp hx]; exact g2⟩
      split at h
      · cases h
      rename_i h2
      have h4 := take_pre (w := [59, 32]) (Classical.byContradiction h2)
      obtain ⟨q, hq, rfl⟩ := Option.map_eq_some_iff.mp h
      obtain ⟨i1, i2, i3⟩ := rawR_sound hq
      refine ⟨by simp, ?_, fun x hx => ?_⟩
      · cases q with
        | nil => exact absurd rfl i1
        | cons c t =>
          show shHelper g ++ [59, 32] ++ joinL [59, 32] ((c :: t).map shHelper) = r
          rw [i2, g1, List.append_assoc]
          congr 1
          exact h4.symm
      · rcases List.mem_cons.mp hx with rfl | hx
        · exact g2
        · exact i3 x hx
theorem stepsR_complete {names : List L} {rest : L} (h1 : nodig rest) (h2 : nosmall rest) (h3 : rest.take 1 ≠ [44]) : ∀ {ss : List GS} {k : Nat} {first : Bool}, stepsOk names ss = true → ss ≠ [] → ss.length + 1 ≤ k →
    stepsR k first ((if first = true then [32] else [44, 32]) ++ joinL [44, 32] (ss.map shStep) ++ rest) = some (ss, rest)
  | [], _, _, _, hn, _ => absurd rfl hn
  | s :: t, 0, _, _, _, hk => by omega
  | s :: t, k + 1, first, ho, _, hk => by
    rw [stepsOk, Bool.and_eq_true] at ho
    have n44 : ∀ X : L, nodig (44 :: X) := fun X c hc => by
      have : c = 44 := by simpa using hc.symm
      subst this; decide
    have s44 : ∀ X : L, nosmall (44 :: X) := fun X c hc => by
      have : c = 44 := by simpa using hc.symm
      subst this; decide
    obtain ⟨tail, t1, t2, t3, t4, t5⟩ : ∃ tail, nodig tail ∧ nosmall tail ∧ joinL [44, 32] ((s :: t).map shStep) ++ rest = shStep s ++ tail ∧ (t = [] → tail = rest) ∧ (t ≠ [] → tail = [44, 32] ++ joinL [44, 32] (t.map shStep) ++ rest) := by
      cases t with
      | nil => exact ⟨rest, h1, h2, rfl, fun _ => rfl, fun z => absurd rfl z⟩
      | cons c u =>
        refine ⟨[44, 32] ++ joinL [44, 32] ((c :: u).map shStep) ++ rest, ?_, ?_, ?_, fun z => (by cases z), fun _ => rfl⟩
        · rw [List.append_assoc]; exact n44 _
        · rw [List.append_assoc]; exact s44 _
        · show shStep s ++ [44, 32] ++ joinL [44, 32] ((c :: u).map shStep) ++ rest = _
          simp only [List.append_assoc]
    have e1 : (if first = true then [32] else [44, 32]) ++ joinL [44, 32] ((s :: t).map shStep) ++ rest = (if first = true then [32] else [44, 32]) ++ (shStep s ++ tail) := by rw [List.append_assoc, t3]
    rw [e1, stepsR]
    have e2 : ((if first = true then [32] else [44, 32]) ++ (shStep s ++ tail)).take 1 = (if first = true then [32] else [44]) := by cases first <;> rfl
    have e3 : ((if first = true then [32] else [44, 32]) ++ (shStep s ++ tail)).drop (if first = true then 1 else 2) = shStep s ++ tail := by cases first <;> rfl
    have e4 : ¬ (first = false ∧ ((if first = true then [32] else [44, 32]) ++ (shStep s ++ tail)).take 2 ≠ [44, 32]) := by
      rintro ⟨rfl, z⟩
      exact z rfl
    rw [if_pos e2, e3, stepR_complete ho.1 t1 t2]
    show (if first = false ∧ ((if first = true then [32] else [44, 32]) ++ (shStep s ++ tail)).take 2 ≠ [44, 32] then none else (stepsR k false tail).map fun x => (s :: x.1, x.2)) = _
    rw [if_neg e4]
    cases t with
    | nil =>
      rw [t4 rfl]
      cases k with
      | zero => simp at hk
      | succ k =>
        rw [stepsR, if_neg Bool.false_ne_true, if_neg h3]
        rfl
    | cons c u =>
      have ih := stepsR_complete h1 h2 h3 (ss := c :: u) (k := k) (first := false) ho.2 (by simp) (by simp only [List.length_cons] at hk ⊢; omega)
      rw [if_neg Bool.false_ne_true] at ih
      rw [t5 (by simp), ih]
      rfl
theorem steps_len {names : List L} {ss : List GS} (h : stepsOk names ss = true) : ss.length ≤ (joinL [44, 32] (ss.map shStep)).length := by
  have key : ∀ s ∈ ss, 1 ≤ (shStep s).length := fun s _ => by
    cases s with
    | wait => show 1 ≤ wWait.length; decide
    | cell a b => show 1 ≤ (wCell ++ [32] ++ sh a ++ [32] ++ sh b).length; simp only [List.length_append, List.length_singleton]; omega
    | skip a b => show 1 ≤ (wSkip ++ [32] ++ sh a ++ [32] ++ dig b).length; simp only [List.length_append, List.length_singleton]; omega
    | other w n e => show 1 ≤ (w ++ [32] ++ n ++ [32] ++ sh e).length; simp only [List.length_append, List.length_singleton]; omega
  have gen : ∀ ss : List GS, (∀ s ∈ ss, 1 ≤ (shStep s).length) → ss.length ≤ (joinL [44, 32] (ss.map shStep)).length := by
    intro ss
    induction ss with
    | nil => intro _; exact Nat.zero_le _
    | cons a t ih =>
      intro h
      have h1 := h a List.mem_cons_self
      have h2 := ih fun s hs => h s (List.mem_cons_of_mem _ hs)
      cases t with
      | nil => exact h1
      | cons c u =>
        show (a :: c :: u).length ≤ (shStep a ++ [44, 32] ++ joinL [44, 32] ((c :: u).map shStep)).length
        simp only [List.length_append, List.length_cons, List.length_nil] at h2 ⊢
        omega
  exact gen ss key
theorem helperR_complete {names : List L} {h : Helper} {rest : L} (hn : isName h.1 = true) (ho : stepsOk names h.2 = true) (hr : rest = [] ∨ ∃ X, rest = 59 :: X) : helperR (shHelper h ++ rest) = some (h, rest) := by
  obtain ⟨n, ss⟩ := h
  have hns : ∀ c ∈ n, small c = true := by
    have hn : isName n = true := hn
    unfold isName at hn
    simp only [Bool.and_eq_true, List.all_eq_true] at hn
    exact hn.2
  have s58 : ∀ X : L, nosmall (58 :: X) := fun X c hc => by
    have : c = 58 := by simpa using hc.symm
    subst this; decide
  have r1 : nodig rest ∧ nosmall rest ∧ rest.take 1 ≠ [44] ∧ rest.take 1 ≠ [32] := by
    rcases hr with rfl | ⟨X, rfl⟩
    · exact ⟨fun c hc => by simp at hc, fun c hc => by simp at hc, by simp, by simp⟩
    · refine ⟨fun c hc => ?_, fun c hc => ?_, by simp, by simp⟩
      · have : c = 59 := by simpa using hc.symm
        subst this; decide
      · have : c = 59 := by simpa using hc.symm
        subst this; decide
  have hd : ∀ X : L, (n ++ 58 :: X).takeWhile small = n ∧ (n ++ 58 :: X).drop n.length = 58 :: X := fun X => ⟨takeWhile_all hns (s58 X), List.drop_left⟩
  cases ss with
  | nil =>
    have es : shHelper (n, []) ++ rest = n ++ 58 :: rest := by show n ++ [58] ++ rest = _; simp
    obtain ⟨e1, e2⟩ := hd rest
    rw [es]
    unfold helperR
    rw [e1, e2, if_neg (fun z => z rfl)]
    show (stepsR ((n ++ 58 :: rest).length + 1) true rest).map _ = _
    rw [stepsR, if_pos rfl, if_neg r1.2.2.2]
    rfl
  | cons s t =>
    have es : shHelper (n, s :: t) ++ rest = n ++ 58 :: ([32] ++ joinL [44, 32] ((s :: t).map shStep) ++ rest) := by
      show n ++ [58, 32] ++ joinL [44, 32] ((s :: t).map shStep) ++ rest = _
      simp
    obtain ⟨e1, e2⟩ := hd ([32] ++ joinL [44, 32] ((s :: t).map shStep) ++ rest)
    have hl := steps_len ho
    have hc := stepsR_complete r1.1 r1.2.1 r1.2.2.1 (ss := s :: t) (k := (n ++ 58 :: ([32] ++ joinL [44, 32] ((s :: t).map shStep) ++ rest)).length + 1) (first := true) ho (by simp) (by
      have hl : (s :: t).length ≤ (joinL [44, 32] ((s :: t).map shStep)).length := hl
      generalize joinL [44, 32] ((s :: t).map shStep) = J at *
      generalize (s :: t).length = z at *
      simp only [List.length_append, List.length_cons, List.length_nil]
      omega)
    rw [if_pos rfl] at hc
    rw [es]
    unfold helperR
    rw [e1, e2, if_neg (fun z => z rfl)]
    show (stepsR ((n ++ 58 :: ([32] ++ joinL [44, 32] ((s :: t).map shStep) ++ rest)).length + 1) true ([32] ++ joinL [44, 32] ((s :: t).map shStep) ++ rest)).map _ = _
    rw [hc]
    rfl
theorem rawR_complete {names : List L} : ∀ {p : List Helper} {k : Nat}, (∀ h ∈ p, isName h.1 = true ∧ stepsOk names h.2 = true) → p ≠ [] → p.length ≤ k → rawR k (joinL [59, 32] (p.map shHelper)) = some p
  | [], _, _, hn, _ => absurd rfl hn
  | h :: t, 0, _, _, hk => by simp at hk
  | h :: t, k + 1, hp, _, hk => by
    obtain ⟨h1, h2⟩ := hp h List.mem_cons_self
    rw [rawR]
    cases t with
    | nil =>
      have := helperR_complete h1 h2 (rest := []) (.inl rfl)
      rw [List.append_nil] at this
      show (match helperR (shHelper h) with | none => none | some (g, r1) => if r1 = [] then some [g] else if r1.take 2 ≠ [59, 32] then none else (rawR k (r1.drop 2)).map fun p => g :: p) = _
      rw [this]
      rfl
    | cons c u =>
      have ej : joinL [59, 32] ((h :: c :: u).map shHelper) = shHelper h ++ ([59, 32] ++ joinL [59, 32] ((c :: u).map shHelper)) := by
        show shHelper h ++ [59, 32] ++ joinL [59, 32] ((c :: u).map shHelper) = _
        rw [List.append_assoc]
      have := helperR_complete h1 h2 (rest := [59, 32] ++ joinL [59, 32] ((c :: u).map shHelper)) (.inr ⟨_, rfl⟩)
      rw [ej, this]
      show (rawR k (joinL [59, 32] ((c :: u).map shHelper))).map (fun p => h :: p) = _
      rw [rawR_complete (fun x hx => hp x (List.mem_cons_of_mem _ hx)) (by simp) (by simp only [List.length_cons] at hk ⊢; omega)]
      rfl
theorem prog_len_le : ∀ {p : List Helper}, p.length ≤ (joinL [59, 32] (p.map shHelper)).length
  | [] => Nat.zero_le _
  | [h] => by
    show 1 ≤ (shHelper h).length
    cases hh : shHelper h with
    | nil => exact absurd hh (shHelper_ne h)
    | cons => simp
  | h :: c :: u => by
    have ih := prog_len_le (p := c :: u)
    show _ ≤ (shHelper h ++ [59, 32] ++ joinL [59, 32] ((c :: u).map shHelper)).length
    simp only [List.length_append, List.length_cons, List.length_nil] at ih ⊢
    omega
/-- both readings are one -/
theorem lawRead_eq (t : L) : lawRead t = readProg t := by
  cases h : lawRead t with
  | some p =>
    obtain ⟨q, hq, h⟩ := Option.bind_eq_some_iff.mp h
    split at h
    · rename_i hip
      cases h
      have hs : shProg p = t := by
        unfold lawRaw at hq
        split at hq
        · rename_i e
          cases hq
          rw [e]; rfl
        · exact (rawR_sound hq).2.1
      rw [← hs, readProg_sh hip]
    · cases h
  | none =>
    cases hr : readProg t with
    | none => rfl
    | some q =>
      obtain ⟨h1, h2⟩ := sh_readProg hr
      have : lawRead t = some q := by
        unfold lawRead lawRaw
        rw [← h1]
        by_cases e : shProg q = []
        · have hq : q = [] := by
            cases q with
            | nil => rfl
            | cons a r =>
              exfalso
              exact joinL_ne [59, 32] (xs := (a :: r).map shHelper) (by simp) (fun x hx => by
                obtain ⟨y, _, rfl⟩ := List.mem_map.mp hx
                exact shHelper_ne y) e
          rw [if_pos e, hq]
          rfl
        · rw [if_neg e]
          have hq : q ≠ [] := fun z => e (by rw [z]; rfl)
          have := rawR_complete (names := q.map (·.1)) (p := q) (k := (shProg q).length + 1) (prog_parts h2) hq (Nat.le_succ_of_le prog_len_le)
          unfold shProg at this ⊢
          rw [this]
          show (if isProg q = true then some q else none) = _
          rw [if_pos h2]
      rw [h] at this
      cases this
end FG
/-! ### XD: int(text), str(int) of up to 4300 figures, where the limit of figures is as it is at first -/
namespace XD
open PySem PySem.Spec PyProof.Rows L2 PySem.Calls PySem.NumText
theorem lim {M : Model} {A : Around} {E : Value → Shared → Prop} {s : Shared} {Q : Nat → Shared → Prop} (hn : s.heap.NoDigits) (h : Q 4300 s) : wpAny M A Builtin.intMaxStrDigits Q E s := by
  obtain ⟨mc, hns, hnone⟩ := hn
  unfold Builtin.intMaxStrDigits
  refine wpAny_bind (wpAny_nsGet hns ?_)
  rw [hnone]
  exact wpAny_pure h
theorem wp_textD {M : Model} {A : Around} {E : Value → Shared → Prop} {s : Shared} {Q : Value → Shared → Prop} {v : Value} {text : List Nat} {n : Int} (hn : s.heap.NoDigits)
    (hs : ¬ (text.takeWhile (· != 0)).length ≤ 640) (hr : (int_private% "readNumeral") 4300 10 (text.takeWhile (· != 0)) = (int_private% "Numeral.value") n)
    (ha : ((text.takeWhile (· != 0)).length == text.length) = true) (h : Q (.int n s.toks) { s with toks := s.toks + 1 }) :
    wpAny M A ((int_private% "intFromText") v text 10) Q E s := by
  obtain ⟨hp, g, d, tk, os⟩ := s
  repeat (any_goals (first
    | assumption
    | (with_reducible refine wpAny_ite_false (decide_eq_false hs) ?_)
    | (with_reducible refine wpAny_ite_true (decide_eq_true ha) ?_)
    | (with_reducible refine lim hn ?_)
    | wp_step))
  all_goals (try rw [hr])
  all_goals (try dsimp only)
  repeat (any_goals (first
    | assumption
    | (with_reducible refine wpAny_ite_true (decide_eq_true ha) ?_)
    | wp_step))
structure Hidden (p : Prop) : Prop where
  it : p
set_option maxHeartbeats 8000000 in
theorem meets_textD {x : PySem.Str} {u : Tok} {n : Int} (hl : ¬ (numSeenOf x).length ≤ 640) (hz : x.length ≤ sizeLine) (hv : PySem.intText? x = some n) :
    Meets (Builtin.«int.__new__» ⟨[.type "int", .str x u], []⟩) (fun _ R s => s.heap.NoDigits ∧ R (.ok (.ret (.int n s.toks))) { s with toks := s.toks + 1 }) := fun prog w A R s ⟨hn, hq⟩ => by
  have hr : (int_private% "readNumeral") 4300 10 (numSeenOf x) = (int_private% "Numeral.value") n ∧ ((numSeenOf x).length == (numTextOf x).length) = true := by
    rcases read4300 x hz with ⟨m, h1, h2, h3⟩ | ⟨h1, _⟩
    · rw [hv] at h1
      injection h1 with h1
      subst h1
      exact ⟨h3, h2⟩
    · rw [hv] at h1
      cases h1
  refine wpAny_mono (Q := fun fin s' => ∃ v, fin = .done (.ret v) ∧ R (.ok (.ret v)) s') ?_ (fun fin s' h' => by obtain ⟨v, rfl, hv⟩ := h'; exact hv) fun _ _ x => x
  obtain ⟨hp, g, d, tk, os⟩ := s
  have f1 := F.conv_sub_int
  have f2 := F.madeHere_int
  have f3 := PySem.W.KIN.str_int
  have f4 := PySem.W.KIN.str_idx
  have f5 := PySem.W.KIN.str_trunc
  have f6 : typeOf (.str x u) = pure (.type "str") := rfl
  have hk := Hidden.mk (And.intro hl hr)
  clear hr hl hv
  repeat (any_goals (first
    | assumption
    | ((with_reducible show wpAny _ _ ((int_private% "intFromText") _ _ _) _ _ _); refine wp_textD hn hk.it.1 hk.it.2.1 hk.it.2.2 ?_)
    | wp_step))
  all_goals first | exact ⟨_, rfl, hq⟩ | skip
set_option maxHeartbeats 8000000 in
theorem meets_text0 {x : PySem.Str} {u : Tok} {n : Int} (hl : (numSeenOf x).length ≤ 640) (hv : PySem.intText? x = some n) :
    Meets (Builtin.«int.__new__» ⟨[.type "int", .str x u], []⟩) (fun _ R s => R (.ok (.ret (.int n s.toks))) { s with toks := s.toks + 1 }) := fun prog w A R s hq => by
  have hr : (int_private% "readNumeral") 0 10 (numSeenOf x) = (int_private% "Numeral.value") n ∧ ((numSeenOf x).length == (numTextOf x).length) = true := by
    rcases read0 x hl with ⟨m, h1, h2, h3⟩ | ⟨h1, _⟩
    · rw [hv] at h1
      injection h1 with h1
      subst h1
      exact ⟨h3, h2⟩
    · rw [hv] at h1
      cases h1
  refine wpAny_mono (Q := fun fin s' => ∃ v, fin = .done (.ret v) ∧ R (.ok (.ret v)) s') ?_ (fun fin s' h' => by obtain ⟨v, rfl, hv⟩ := h'; exact hv) fun _ _ x => x
  obtain ⟨hp, g, d, tk, os⟩ := s
  have f1 := F.conv_sub_int
  have f2 := F.madeHere_int
  have f3 := PySem.W.KIN.str_int
  have f4 := PySem.W.KIN.str_idx
  have f5 := PySem.W.KIN.str_trunc
  have f6 : typeOf (.str x u) = pure (.type "str") := rfl
  have hk := Hidden.mk (And.intro hl hr)
  clear hr hl hv
  repeat (any_goals (first
    | assumption
    | ((with_reducible show wpAny _ _ ((int_private% "intFromText") _ _ _) _ _ _); refine PySem.W.KIN.wp_text hk.it.1 hk.it.2.1 hk.it.2.2 ?_)
    | wp_step))
  all_goals first | exact ⟨_, rfl, hq⟩ | skip
section
variable {X : Cx} (K : PySem.W.Frag) (hK : X.K = K)
/-- what the statics must say -/
def digB (K : PySem.W.Frag) : Bool := PySem.W.nsOkIn K cStatics && decide (PySem.W.nsIn K cStatics "sys.int_max_str_digits" = some none)
theorem noDig {K : PySem.W.Frag} {h : Heap} (X : K.In h) (d : digB K = true) : h.NoDigits := by
  unfold digB at d
  rw [Bool.and_eq_true, decide_eq_true_eq] at d
  exact ⟨_, .of_isNs (PySem.W.isNs_of_in X d.1), PySem.W.nsMap_none_of_in X d.1 d.2⟩
include hK
theorem call_int_strD (d : digB K = true) : CallR X (.type "int") (fun xs H Q => ∃ a n, xs = [.str a] ∧ PySem.intText? a = some n ∧ a.length ≤ 4000 ∧ Q (.int n) H) := by
  subst hK
  intro pins s σ H xs us Q I rs h
  obtain ⟨a, n, rfl, hv, hl, h⟩ := h
  obtain ⟨u, rfl, t, rfl⟩ := vals1 rs
  by_cases hs : (numSeenOf a).length ≤ 640
  · exact PySem.call_int_1 (meets_text0 hs hv) ⟨typeIs_int _ _ _, .int n, H, I.tok _, ⟨_, rfl⟩, h⟩
  · exact PySem.call_int_1 (meets_textD hs (Nat.le_trans hl (by decide)) hv) ⟨noDig I.kIn d, typeIs_int _ _ _, .int n, H, I.tok _, ⟨_, rfl⟩, h⟩
theorem call_str_intD (hc : X.calm = true) (d : digB K = true) : CallR X (.type "str") (fun xs H Q => ∃ i, xs = [.int i] ∧ i.natAbs.log2 < 12900 ∧ Q (.str (toString i)) H) := by
  subst hK
  intro pins s σ H xs us Q I r h
  obtain ⟨i, rfl, hz, q⟩ := h
  obtain ⟨u, rfl, t, rfl⟩ := vals1 r
  have hlt : i.natAbs < 10 ^ 4300 := Nat.lt_of_lt_of_le (lt_of_log2 hz) pow_lo
  exact str_of_int_or (I.ok.hd hc) (noDig I.kIn d) (fun _ => ⟨.str _, H, I.tok _, ⟨_, rfl⟩, q⟩) fun z => absurd z (Nat.not_le.mpr hlt)
end
/-! a text so many times -/
def rMulS : R2 := fun x y H Q => ∃ (l : List Nat) (k : Nat), x = .str ⟨l.toArray⟩ ∧ y = .int (k : Int) ∧ l.length ≤ 1000 ∧ k ≤ 1000000 ∧ l.length * k ≤ 1000000 ∧ Q (.str ⟨((List.replicate k l).flatten).toArray⟩) H
theorem fold_app (l : List Nat) : ∀ (k : Nat) (acc : Array Nat), (List.replicate k l.toArray).foldl (· ++ ·) acc = (acc.toList ++ (List.replicate k l).flatten).toArray
  | 0, acc => by simp
  | k + 1, acc => by
    rw [List.replicate_succ, List.foldl_cons, fold_app l k, List.replicate_succ, List.flatten_cons]
    simp
theorem op_mulS {X : Cx} : OpR X (binaryOp .Mult) rMulS := by
  intro pins s σ H x y v u Q I rx ry h
  obtain ⟨l, k, rfl, rfl, hl, hk, hlk, q⟩ := h
  obtain ⟨t, rfl⟩ := rx
  obtain ⟨t2, rfl⟩ := ry
  have ln : (⟨l.toArray⟩ : PySem.Str).length = l.length := by simp [PySem.Str.length]
  refine PySem.P.mul_str ?_ (fun h1 _ => ?_) (fun _ _ => ?_) ?_
  · rw [decide_eq_false (by omega), decide_eq_false (by omega)]; rfl
  · rw [ln]
    intro z
    have h2 : (1000 : Int) ≤ (2 ^ 63 - 1) / (k : Int) := by
      rw [Int.le_ediv_iff_mul_le (by omega)]
      omega
    omega
  · rw [ln, Int.toNat_natCast]
    show decide (l.length * k > sizeLine) = false
    have : 1000000 ≤ sizeLine := by decide
    exact decide_eq_false (by omega)
  · by_cases h1 : (k : Int) < 1
    · have : k = 0 := by omega
      subst this
      rw [if_pos h1]
      exact ⟨by decide, .str _, H, I.tok _, ⟨_, rfl⟩, q⟩
    · rw [if_neg h1]
      by_cases h2 : ((k : Int) == 1 || (⟨l.toArray⟩ : PySem.Str).length == 0) = true
      · rw [if_pos h2]
        rw [ln, Bool.or_eq_true, beq_iff_eq, beq_iff_eq] at h2
        refine ⟨.str _, H, I, ⟨_, rfl⟩, ?_⟩
        have e : (List.replicate k l).flatten = l := by
          rcases h2 with h2 | h2
          · have : k = 1 := by omega
            subst this; simp
          · rw [List.eq_nil_of_length_eq_zero h2]; simp
        rw [e] at q
        exact q
      · rw [if_neg h2, Int.toNat_natCast]
        have e := fold_app l k #[]
        rw [e]
        refine ⟨?_, .str _, H, I.tok _, ⟨_, rfl⟩, ?_⟩
        · have h3 : 1000000 ≤ sizeLine := by decide
          have h4 : ((List.replicate k l).flatten).length = k * l.length := by simp
          show (#[].toList ++ (List.replicate k l).flatten).toArray.size ≤ sizeLine
          rw [List.size_toArray, List.length_append, h4, Nat.mul_comm]
          simp
          omega
        · simpa using q
end XD
/-! ### XH: the head's facts, the statics too -/
namespace XH
open PySem PySem.Spec PyProof.Rows L2 He
/-- what is looked at: the statics, and what hangs on the top -/
def frY (g : Addr → Option Obj) (n : Nat) : PySem.W.Frag := frT g (cStatics :: asD g n)
def obsY (n : Nat) (fa : List Fa) (fn : List DefD) (ts : List Tab) (ex : PySem.W.Frag → Bool) (g : Addr → Option Obj) : AlX := (obsT fa fn ts (frY g n), ex (frY g n))
theorem saysY {n : Nat} {fa : List Fa} {fn : List DefD} {ts : List Tab} {ex : PySem.W.Frag → Bool} {w : World} {h : Heap} (e : obsY n fa fn ts ex h.get? = valX fn ts w) : SaysX fa fn ts [] ex w h (frY h.get? n) :=
  ⟨congrArg (fun z : AlX => z.1) e, congrArg (fun z : AlX => z.2) e, (fun p hp => nomatch hp), (fun p hp => nomatch hp), (fun p hp => nomatch hp)⟩
def hookY (n : Nat) (fa : List Fa) (fn : List DefD) (ts : List Tab) (ex : PySem.W.Frag → Bool) : PySem.W.Hook where
  α := AlX
  obs := fun s => obsY n fa fn ts ex s.heap.get?
  val := fun w => valX fn ts w
  says := fun w h => ∃ K : PySem.W.Frag, K.In h ∧ SaysX fa fn ts [] ex w h K
  of := fun _ _ e => ⟨_, frT_in, saysY e⟩
  keeps := fun _ _ _ ⟨K, hK, c⟩ k => ⟨K, PySem.W.Frag.In.keeps hK k, ⟨c.t, c.more, c.hd, c.out, (fun p hp => nomatch hp)⟩⟩
theorem obsY_eq {n : Nat} {fa : List Fa} {fn : List DefD} {ts : List Tab} {ex : PySem.W.Frag → Bool} {g : Addr → Option Obj} {s : Shared} (h : ∀ a, g a = s.heap.get? a) : obsY n fa fn ts ex g = (hookY n fa fn ts ex).obs s := by
  rw [show g = s.heap.get? from funext h]
  rfl
end XH
namespace K55
open PySem PySem.Spec PyProof.Rows L2
def top (i : Nat) : Stmt := PySem.Challenge.pw_forkgather_k55_long_texts.main.body.getD i (.Pass ⟨0, 0, 0, 0⟩)
abbrev s_NoProgram__init : Stmt := inClass (top 2) 0
abbrev N_NoProgram__init : List Str := ["self", "helper", "at"]
theorem sc_NoProgram__init : FnScope N_NoProgram__init ["self", "helper", "at"] (defScope s_NoProgram__init) := ⟨rfl, rfl, rfl, by decide +kernel, rfl, by decide +kernel, by decide +kernel⟩
abbrev s_NoHelper__init : Stmt := inClass (top 3) 0
abbrev N_NoHelper__init : List Str := ["self", "name"]
theorem sc_NoHelper__init : FnScope N_NoHelper__init ["self", "name"] (defScope s_NoHelper__init) := ⟨rfl, rfl, rfl, by decide +kernel, rfl, by decide +kernel, by decide +kernel⟩
abbrev s_TooLong__init : Stmt := inClass (top 4) 0
abbrev N_TooLong__init : List Str := ["self", "most"]
theorem sc_TooLong__init : FnScope N_TooLong__init ["self", "most"] (defScope s_TooLong__init) := ⟨rfl, rfl, rfl, by decide +kernel, rfl, by decide +kernel, by decide +kernel⟩
abbrev s_NoHand__init : Stmt := inClass (top 6) 0
abbrev N_NoHand__init : List Str := ["self", "hand"]
theorem sc_NoHand__init : FnScope N_NoHand__init ["self", "hand"] (defScope s_NoHand__init) := ⟨rfl, rfl, rfl, by decide +kernel, rfl, by decide +kernel, by decide +kernel⟩
abbrev s_is_whole : Stmt := top 13
abbrev N_is_whole : List Str := ["thing"]
theorem sc_is_whole : FnScope N_is_whole ["thing"] (defScope s_is_whole) := ⟨rfl, rfl, rfl, by decide +kernel, rfl, by decide +kernel, by decide +kernel⟩
abbrev s_is_name : Stmt := top 14
abbrev N_is_name : List Str := ["thing", "sign"]
theorem sc_is_name : FnScope N_is_name ["thing"] (defScope s_is_name) := ⟨rfl, rfl, rfl, by decide +kernel, rfl, by decide +kernel, by decide +kernel⟩
abbrev s_is_expression : Stmt := top 15
abbrev N_is_expression : List Str := ["thing", "most", "one"]
theorem sc_is_expression : FnScope N_is_expression ["thing", "most"] (defScope s_is_expression) := ⟨rfl, rfl, rfl, by decide +kernel, rfl, by decide +kernel, by decide +kernel⟩
abbrev s_is_step : Stmt := top 16
abbrev N_is_step : List Str := ["thing", "names", "behind", "word"]
theorem sc_is_step : FnScope N_is_step ["thing", "names", "behind"] (defScope s_is_step) := ⟨rfl, rfl, rfl, by decide +kernel, rfl, by decide +kernel, by decide +kernel⟩
abbrev s_has_form : Stmt := top 17
abbrev N_has_form : List Str := ["thing", "row", "names", "name", "steps", "one", "other"]
theorem sc_has_form : FnScope N_has_form ["thing"] (defScope s_has_form) := ⟨rfl, rfl, rfl, by decide +kernel, rfl, by decide +kernel, by decide +kernel⟩
abbrev s_first_wrong : Stmt := top 18
abbrev N_first_wrong : List Str := ["program", "names", "name", "steps", "at", "step"]
theorem sc_first_wrong : FnScope N_first_wrong ["program"] (defScope s_first_wrong) := ⟨rfl, rfl, rfl, by decide +kernel, rfl, by decide +kernel, by decide +kernel⟩
abbrev s_is_program : Stmt := top 19
abbrev N_is_program : List Str := ["thing"]
theorem sc_is_program : FnScope N_is_program ["thing"] (defScope s_is_program) := ⟨rfl, rfl, rfl, by decide +kernel, rfl, by decide +kernel, by decide +kernel⟩
abbrev s_show_expression : Stmt := top 22
abbrev N_show_expression : List Str := ["expression", "one"]
theorem sc_show_expression : FnScope N_show_expression ["expression"] (defScope s_show_expression) := ⟨rfl, rfl, rfl, by decide +kernel, rfl, by decide +kernel, by decide +kernel⟩
abbrev s_show_step : Stmt := top 23
abbrev N_show_step : List Str := ["step", "one"]
theorem sc_show_step : FnScope N_show_step ["step"] (defScope s_show_step) := ⟨rfl, rfl, rfl, by decide +kernel, rfl, by decide +kernel, by decide +kernel⟩
abbrev s_show_program : Stmt := top 24
abbrev N_show_program : List Str := ["program", "rows", "name", "steps", "step"]
theorem sc_show_program : FnScope N_show_program ["program"] (defScope s_show_program) := ⟨rfl, rfl, rfl, by decide +kernel, rfl, by decide +kernel, by decide +kernel⟩
abbrev s_read_number : Stmt := top 25
abbrev N_read_number : List Str := ["text", "figures", "sign"]
theorem sc_read_number : FnScope N_read_number ["text"] (defScope s_read_number) := ⟨rfl, rfl, rfl, by decide +kernel, rfl, by decide +kernel, by decide +kernel⟩
abbrev s_parted : Stmt := top 26
abbrev N_parted : List Str := ["text", "found", "level", "sign"]
theorem sc_parted : FnScope N_parted ["text"] (defScope s_parted) := ⟨rfl, rfl, rfl, by decide +kernel, rfl, by decide +kernel, by decide +kernel⟩
abbrev s_read_expression : Stmt := top 27
abbrev N_read_expression : List Str := ["text", "most", "word", "inner", "one"]
theorem sc_read_expression : FnScope N_read_expression ["text", "most"] (defScope s_read_expression) := ⟨rfl, rfl, rfl, by decide +kernel, rfl, by decide +kernel, by decide +kernel⟩
abbrev s_read_step : Stmt := top 28
abbrev N_read_step : List Str := ["text", "words"]
theorem sc_read_step : FnScope N_read_step ["text"] (defScope s_read_step) := ⟨rfl, rfl, rfl, by decide +kernel, rfl, by decide +kernel, by decide +kernel⟩
abbrev s_read_helper : Stmt := top 29
abbrev N_read_helper : List Str := ["text", "name", "between", "further", "one"]
theorem sc_read_helper : FnScope N_read_helper ["text"] (defScope s_read_helper) := ⟨rfl, rfl, rfl, by decide +kernel, rfl, by decide +kernel, by decide +kernel⟩
abbrev s_read_program : Stmt := top 30
abbrev N_read_program : List Str := ["text", "program", "one"]
theorem sc_read_program : FnScope N_read_program ["text"] (defScope s_read_program) := ⟨rfl, rfl, rfl, by decide +kernel, rfl, by decide +kernel, by decide +kernel⟩
abbrev s_law_cell_at : Stmt := top 32
abbrev N_law_cell_at : List Str := ["script", "k"]
theorem sc_law_cell_at : FnScope N_law_cell_at ["script", "k"] (defScope s_law_cell_at) := ⟨rfl, rfl, rfl, by decide +kernel, rfl, by decide +kernel, by decide +kernel⟩
abbrev s_law_bag : Stmt := top 33
abbrev N_law_bag : List Str := ["cell", "place"]
theorem sc_law_bag : FnScope N_law_bag ["cell", "place"] (defScope s_law_bag) := ⟨rfl, rfl, rfl, by decide +kernel, rfl, by decide +kernel, by decide +kernel⟩
abbrev s_law_draw : Stmt := top 34
abbrev N_law_draw : List Str := ["bag", "many", "found", "mixed"]
theorem sc_law_draw : FnScope N_law_draw ["bag", "many"] (defScope s_law_draw) := ⟨rfl, rfl, rfl, by decide +kernel, rfl, by decide +kernel, by decide +kernel⟩
abbrev s_law_sign : Stmt := top 35
abbrev N_law_sign : List Str := ["bag", "some"]
theorem sc_law_sign : FnScope N_law_sign ["bag"] (defScope s_law_sign) := ⟨rfl, rfl, rfl, by decide +kernel, rfl, by decide +kernel, by decide +kernel⟩
abbrev s_law_is_name : Stmt := top 36
abbrev N_law_is_name : List Str := ["thing", "sign"]
theorem sc_law_is_name : FnScope N_law_is_name ["thing"] (defScope s_law_is_name) := ⟨rfl, rfl, rfl, by decide +kernel, rfl, by decide +kernel, by decide +kernel⟩
abbrev s_law_is_whole : Stmt := top 37
abbrev N_law_is_whole : List Str := ["thing"]
theorem sc_law_is_whole : FnScope N_law_is_whole ["thing"] (defScope s_law_is_whole) := ⟨rfl, rfl, rfl, by decide +kernel, rfl, by decide +kernel, by decide +kernel⟩
abbrev s_law_is_expression : Stmt := top 38
abbrev N_law_is_expression : List Str := ["thing", "most", "parts", "one"]
theorem sc_law_is_expression : FnScope N_law_is_expression ["thing", "most"] (defScope s_law_is_expression) := ⟨rfl, rfl, rfl, by decide +kernel, rfl, by decide +kernel, by decide +kernel⟩
abbrev s_law_is_step : Stmt := top 39
abbrev N_law_is_step : List Str := ["thing", "names", "behind", "word", "one", "other"]
theorem sc_law_is_step : FnScope N_law_is_step ["thing", "names", "behind"] (defScope s_law_is_step) := ⟨rfl, rfl, rfl, by decide +kernel, rfl, by decide +kernel, by decide +kernel⟩
abbrev s_law_wrong : Stmt := top 40
abbrev N_law_wrong : List Str := ["program", "ahead", "row", "names", "name", "steps", "k"]
theorem sc_law_wrong : FnScope N_law_wrong ["program"] (defScope s_law_wrong) := ⟨rfl, rfl, rfl, by decide +kernel, rfl, by decide +kernel, by decide +kernel⟩
abbrev s_law_number_read : Stmt := top 41
abbrev N_law_number_read : List Str := ["text", "at", "end", "first"]
theorem sc_law_number_read : FnScope N_law_number_read ["text", "at"] (defScope s_law_number_read) := ⟨rfl, rfl, rfl, by decide +kernel, rfl, by decide +kernel, by decide +kernel⟩
abbrev s_law_expression_read : Stmt := top 42
abbrev N_law_expression_read : List Str := ["text", "at", "most", "word", "many", "parts", "end", "j", "got"]
theorem sc_law_expression_read : FnScope N_law_expression_read ["text", "at", "most"] (defScope s_law_expression_read) := ⟨rfl, rfl, rfl, by decide +kernel, rfl, by decide +kernel, by decide +kernel⟩
abbrev s_law_letters : Stmt := top 43
abbrev N_law_letters : List Str := ["text", "at"]
theorem sc_law_letters : FnScope N_law_letters ["text", "at"] (defScope s_law_letters) := ⟨rfl, rfl, rfl, by decide +kernel, rfl, by decide +kernel, by decide +kernel⟩
abbrev s_law_step_read : Stmt := top 44
abbrev N_law_step_read : List Str := ["text", "at", "end", "word", "mid", "one", "other"]
theorem sc_law_step_read : FnScope N_law_step_read ["text", "at"] (defScope s_law_step_read) := ⟨rfl, rfl, rfl, by decide +kernel, rfl, by decide +kernel, by decide +kernel⟩
abbrev s_law_helper_read : Stmt := top 45
abbrev N_law_helper_read : List Str := ["text", "at", "end", "name", "steps", "got"]
theorem sc_law_helper_read : FnScope N_law_helper_read ["text", "at"] (defScope s_law_helper_read) := ⟨rfl, rfl, rfl, by decide +kernel, rfl, by decide +kernel, by decide +kernel⟩
abbrev s_law_read : Stmt := top 46
abbrev N_law_read : List Str := ["text", "found", "at", "got"]
theorem sc_law_read : FnScope N_law_read ["text"] (defScope s_law_read) := ⟨rfl, rfl, rfl, by decide +kernel, rfl, by decide +kernel, by decide +kernel⟩
abbrev s_law_plain_refusal : Stmt := top 47
abbrev N_law_plain_refusal : List Str := ["caught"]
theorem sc_law_plain_refusal : FnScope N_law_plain_refusal ["caught"] (defScope s_law_plain_refusal) := ⟨rfl, rfl, rfl, by decide +kernel, rfl, by decide +kernel, by decide +kernel⟩
abbrev s_law_asked : Stmt := top 48
abbrev N_law_asked : List Str := ["text", "found", "caught", "e", "due"]
theorem sc_law_asked : FnScope N_law_asked ["text"] (defScope s_law_asked) := ⟨rfl, rfl, rfl, by decide +kernel, rfl, by decide +kernel, by decide +kernel⟩
abbrev s_law_long : Stmt := top 49
abbrev N_law_long : List Str := ["bag", "letters", "many", "pick", "piece", "deep", "long", "k"]
theorem sc_law_long : FnScope N_law_long ["bag"] (defScope s_law_long) := ⟨rfl, rfl, rfl, by decide +kernel, rfl, by decide +kernel, by decide +kernel⟩
abbrev s_law : Stmt := top 50
abbrev N_law : List Str := ["script", "bag", "text", "at", "other", "one", "due"]
theorem sc_law : FnScope N_law ["script"] (defScope s_law) := ⟨rfl, rfl, rfl, by decide +kernel, rfl, by decide +kernel, by decide +kernel⟩
abbrev FnP (K : PySem.W.Frag) (x q : Str) (st : Stmt) (dvs : List V) (f : Addr) (fd : FuncData) : Prop := FunD K x q (defArgs st) (defBody st) (defScope st) dvs [] f fd
/-- what the top leaves -/
structure T (w : World) (K : PySem.W.Frag) (mg : Str → Option Value) where
  C_WorkError : Addr
  g_WorkError : mg "WorkError" = some (.ref C_WorkError)
  x_WorkError : PySem.W.excIn K C_WorkError He.veBase "ValueError.__new__" = true ∧ PySem.W.keepIn K (.ref C_WorkError) = true ∧ PySem.W.subIn K (.ref C_WorkError) (.type "BaseException") = some true ∧ PySem.W.typeIn K (.ref C_WorkError) = some (.type "type")
  C_NoProgram : Addr
  g_NoProgram : mg "NoProgram" = some (.ref C_NoProgram)
  C_NoHelper : Addr
  g_NoHelper : mg "NoHelper" = some (.ref C_NoHelper)
  C_TooLong : Addr
  g_TooLong : mg "TooLong" = some (.ref C_TooLong)
  C_NoMark : Addr
  g_NoMark : mg "NoMark" = some (.ref C_NoMark)
  x_NoMark : PySem.W.excIn K C_NoMark He.veBase "ValueError.__new__" = true ∧ PySem.W.keepIn K (.ref C_NoMark) = true ∧ PySem.W.subIn K (.ref C_NoMark) (.type "BaseException") = some true ∧ PySem.W.typeIn K (.ref C_NoMark) = some (.type "type")
  C_NoHand : Addr
  g_NoHand : mg "NoHand" = some (.ref C_NoHand)
  C_NotOver : Addr
  g_NotOver : mg "NotOver" = some (.ref C_NotOver)
  x_NotOver : PySem.W.excIn K C_NotOver He.veBase "ValueError.__new__" = true ∧ PySem.W.keepIn K (.ref C_NotOver) = true ∧ PySem.W.subIn K (.ref C_NotOver) (.type "BaseException") = some true ∧ PySem.W.typeIn K (.ref C_NotOver) = some (.type "type")
  C_NoText : Addr
  g_NoText : mg "NoText" = some (.ref C_NoText)
  x_NoText : PySem.W.excIn K C_NoText He.veBase "ValueError.__new__" = true ∧ PySem.W.keepIn K (.ref C_NoText) = true ∧ PySem.W.subIn K (.ref C_NoText) (.type "BaseException") = some true ∧ PySem.W.typeIn K (.ref C_NoText) = some (.type "type")
  a_NoProgram__init : Addr
  d_NoProgram__init : FuncData
  F_NoProgram__init : FnP K "__init__" "NoProgram.__init__" s_NoProgram__init [] a_NoProgram__init d_NoProgram__init
  a_NoHelper__init : Addr
  d_NoHelper__init : FuncData
  F_NoHelper__init : FnP K "__init__" "NoHelper.__init__" s_NoHelper__init [] a_NoHelper__init d_NoHelper__init
  a_TooLong__init : Addr
  d_TooLong__init : FuncData
  F_TooLong__init : FnP K "__init__" "TooLong.__init__" s_TooLong__init [] a_TooLong__init d_TooLong__init
  a_NoHand__init : Addr
  d_NoHand__init : FuncData
  F_NoHand__init : FnP K "__init__" "NoHand.__init__" s_NoHand__init [] a_NoHand__init d_NoHand__init
  a_is_whole : Addr
  d_is_whole : FuncData
  F_is_whole : FnP K "is_whole" "is_whole" s_is_whole [] a_is_whole d_is_whole
  g_is_whole : mg "is_whole" = some (.ref a_is_whole)
  a_is_name : Addr
  d_is_name : FuncData
  F_is_name : FnP K "is_name" "is_name" s_is_name [] a_is_name d_is_name
  g_is_name : mg "is_name" = some (.ref a_is_name)
  a_is_expression : Addr
  d_is_expression : FuncData
  F_is_expression : FnP K "is_expression" "is_expression" s_is_expression [V.int 5] a_is_expression d_is_expression
  g_is_expression : mg "is_expression" = some (.ref a_is_expression)
  a_is_step : Addr
  d_is_step : FuncData
  F_is_step : FnP K "is_step" "is_step" s_is_step [] a_is_step d_is_step
  g_is_step : mg "is_step" = some (.ref a_is_step)
  a_has_form : Addr
  d_has_form : FuncData
  F_has_form : FnP K "has_form" "has_form" s_has_form [] a_has_form d_has_form
  g_has_form : mg "has_form" = some (.ref a_has_form)
  a_first_wrong : Addr
  d_first_wrong : FuncData
  F_first_wrong : FnP K "first_wrong" "first_wrong" s_first_wrong [] a_first_wrong d_first_wrong
  g_first_wrong : mg "first_wrong" = some (.ref a_first_wrong)
  a_is_program : Addr
  d_is_program : FuncData
  F_is_program : FnP K "is_program" "is_program" s_is_program [] a_is_program d_is_program
  g_is_program : mg "is_program" = some (.ref a_is_program)
  a_show_expression : Addr
  d_show_expression : FuncData
  F_show_expression : FnP K "show_expression" "show_expression" s_show_expression [] a_show_expression d_show_expression
  g_show_expression : mg "show_expression" = some (.ref a_show_expression)
  a_show_step : Addr
  d_show_step : FuncData
  F_show_step : FnP K "show_step" "show_step" s_show_step [] a_show_step d_show_step
  g_show_step : mg "show_step" = some (.ref a_show_step)
  a_show_program : Addr
  d_show_program : FuncData
  F_show_program : FnP K "show_program" "show_program" s_show_program [] a_show_program d_show_program
  g_show_program : mg "show_program" = some (.ref a_show_program)
  a_read_number : Addr
  d_read_number : FuncData
  F_read_number : FnP K "read_number" "read_number" s_read_number [] a_read_number d_read_number
  g_read_number : mg "read_number" = some (.ref a_read_number)
  a_parted : Addr
  d_parted : FuncData
  F_parted : FnP K "parted" "parted" s_parted [] a_parted d_parted
  g_parted : mg "parted" = some (.ref a_parted)
  a_read_expression : Addr
  d_read_expression : FuncData
  F_read_expression : FnP K "read_expression" "read_expression" s_read_expression [V.int 5] a_read_expression d_read_expression
  g_read_expression : mg "read_expression" = some (.ref a_read_expression)
  a_read_step : Addr
  d_read_step : FuncData
  F_read_step : FnP K "read_step" "read_step" s_read_step [] a_read_step d_read_step
  g_read_step : mg "read_step" = some (.ref a_read_step)
  a_read_helper : Addr
  d_read_helper : FuncData
  F_read_helper : FnP K "read_helper" "read_helper" s_read_helper [] a_read_helper d_read_helper
  g_read_helper : mg "read_helper" = some (.ref a_read_helper)
  a_read_program : Addr
  d_read_program : FuncData
  F_read_program : FnP K "read_program" "read_program" s_read_program [] a_read_program d_read_program
  g_read_program : mg "read_program" = some (.ref a_read_program)
  a_law_cell_at : Addr
  d_law_cell_at : FuncData
  F_law_cell_at : FnP K "_law_cell_at" "_law_cell_at" s_law_cell_at [] a_law_cell_at d_law_cell_at
  g_law_cell_at : mg "_law_cell_at" = some (.ref a_law_cell_at)
  a_law_bag : Addr
  d_law_bag : FuncData
  F_law_bag : FnP K "_law_bag" "_law_bag" s_law_bag [] a_law_bag d_law_bag
  g_law_bag : mg "_law_bag" = some (.ref a_law_bag)
  a_law_draw : Addr
  d_law_draw : FuncData
  F_law_draw : FnP K "_law_draw" "_law_draw" s_law_draw [] a_law_draw d_law_draw
  g_law_draw : mg "_law_draw" = some (.ref a_law_draw)
  a_law_sign : Addr
  d_law_sign : FuncData
  F_law_sign : FnP K "_law_sign" "_law_sign" s_law_sign [] a_law_sign d_law_sign
  g_law_sign : mg "_law_sign" = some (.ref a_law_sign)
  a_law_is_name : Addr
  d_law_is_name : FuncData
  F_law_is_name : FnP K "_law_is_name" "_law_is_name" s_law_is_name [] a_law_is_name d_law_is_name
  g_law_is_name : mg "_law_is_name" = some (.ref a_law_is_name)
  a_law_is_whole : Addr
  d_law_is_whole : FuncData
  F_law_is_whole : FnP K "_law_is_whole" "_law_is_whole" s_law_is_whole [] a_law_is_whole d_law_is_whole
  g_law_is_whole : mg "_law_is_whole" = some (.ref a_law_is_whole)
  a_law_is_expression : Addr
  d_law_is_expression : FuncData
  F_law_is_expression : FnP K "_law_is_expression" "_law_is_expression" s_law_is_expression [] a_law_is_expression d_law_is_expression
  g_law_is_expression : mg "_law_is_expression" = some (.ref a_law_is_expression)
  a_law_is_step : Addr
  d_law_is_step : FuncData
  F_law_is_step : FnP K "_law_is_step" "_law_is_step" s_law_is_step [] a_law_is_step d_law_is_step
  g_law_is_step : mg "_law_is_step" = some (.ref a_law_is_step)
  a_law_wrong : Addr
  d_law_wrong : FuncData
  F_law_wrong : FnP K "_law_wrong" "_law_wrong" s_law_wrong [] a_law_wrong d_law_wrong
  g_law_wrong : mg "_law_wrong" = some (.ref a_law_wrong)
  a_law_number_read : Addr
  d_law_number_read : FuncData
  F_law_number_read : FnP K "_law_number_read" "_law_number_read" s_law_number_read [] a_law_number_read d_law_number_read
  g_law_number_read : mg "_law_number_read" = some (.ref a_law_number_read)
  a_law_expression_read : Addr
  d_law_expression_read : FuncData
  F_law_expression_read : FnP K "_law_expression_read" "_law_expression_read" s_law_expression_read [] a_law_expression_read d_law_expression_read
  g_law_expression_read : mg "_law_expression_read" = some (.ref a_law_expression_read)
  a_law_letters : Addr
  d_law_letters : FuncData
  F_law_letters : FnP K "_law_letters" "_law_letters" s_law_letters [] a_law_letters d_law_letters
  g_law_letters : mg "_law_letters" = some (.ref a_law_letters)
  a_law_step_read : Addr
  d_law_step_read : FuncData
  F_law_step_read : FnP K "_law_step_read" "_law_step_read" s_law_step_read [] a_law_step_read d_law_step_read
  g_law_step_read : mg "_law_step_read" = some (.ref a_law_step_read)
  a_law_helper_read : Addr
  d_law_helper_read : FuncData
  F_law_helper_read : FnP K "_law_helper_read" "_law_helper_read" s_law_helper_read [] a_law_helper_read d_law_helper_read
  g_law_helper_read : mg "_law_helper_read" = some (.ref a_law_helper_read)
  a_law_read : Addr
  d_law_read : FuncData
  F_law_read : FnP K "_law_read" "_law_read" s_law_read [] a_law_read d_law_read
  g_law_read : mg "_law_read" = some (.ref a_law_read)
  a_law_plain_refusal : Addr
  d_law_plain_refusal : FuncData
  F_law_plain_refusal : FnP K "_law_plain_refusal" "_law_plain_refusal" s_law_plain_refusal [] a_law_plain_refusal d_law_plain_refusal
  g_law_plain_refusal : mg "_law_plain_refusal" = some (.ref a_law_plain_refusal)
  a_law_asked : Addr
  d_law_asked : FuncData
  F_law_asked : FnP K "_law_asked" "_law_asked" s_law_asked [] a_law_asked d_law_asked
  g_law_asked : mg "_law_asked" = some (.ref a_law_asked)
  a_law_long : Addr
  d_law_long : FuncData
  F_law_long : FnP K "_law_long" "_law_long" s_law_long [] a_law_long d_law_long
  g_law_long : mg "_law_long" = some (.ref a_law_long)
  a_law : Addr
  d_law : FuncData
  F_law : FnP K "law" "law" s_law [] a_law d_law
  g_law : mg "law" = some (.ref a_law)
  z_ValueError : mg "ValueError" = none
  z_all : mg "all" = none
  z_bool : mg "bool" = none
  z_enumerate : mg "enumerate" = none
  z_int : mg "int" = none
  z_isinstance : mg "isinstance" = none
  z_len : mg "len" = none
  z_list : mg "list" = none
  z_max : mg "max" = none
  z_range : mg "range" = none
  z_str : mg "str" = none
  z_tuple : mg "tuple" = none
  z_zip : mg "zip" = none
  k_LETTERS : ∃ t, mg "LETTERS" = some (.str "abcdefghijklmnopqrstuvwxyz" t)
  k_LONGEST_NAME : ∃ t, mg "LONGEST_NAME" = some (.int 8 t)
  A_PARTS : Addr
  g_PARTS : mg "PARTS" = some (.ref A_PARTS)
  kw_PARTS : He.dicW K A_PARTS = some (He.keysIn w.params ["arg", "cell", "add", "less", "least"])
  kd_PARTS : ∃ es n, KDict K w A_PARTS es n
  kv_PARTS_arg : ∃ u, PySem.W.nsIn K A_PARTS "arg" = some (some u) ∧ RelV (V.int 0) u
  kv_PARTS_cell : ∃ u, PySem.W.nsIn K A_PARTS "cell" = some (some u) ∧ RelV (V.int 1) u
  kv_PARTS_add : ∃ u, PySem.W.nsIn K A_PARTS "add" = some (some u) ∧ RelV (V.int 2) u
  kv_PARTS_less : ∃ u, PySem.W.nsIn K A_PARTS "less" = some (some u) ∧ RelV (V.int 2) u
  kv_PARTS_least : ∃ u, PySem.W.nsIn K A_PARTS "least" = some (some u) ∧ RelV (V.int 2) u
  k_FIGURES : ∃ t, mg "FIGURES" = some (.str "0123456789" t)
  e_NoText_WorkError : PySem.W.exmOne K (.ref C_NoText) (.ref C_WorkError) = some true
  xc_NoText : ExcC K C_NoText
  ki_NoText : PySem.W.kitAny K (.ref C_NoText) [.ref C_NoHand, .ref C_NoHelper, .ref C_NoMark, .ref C_NoProgram, .ref C_NotOver, .ref C_TooLong] = some false
  kn_NoText : PySem.W.kitOne K (.ref C_NoText) (.ref C_NoText) = some true
  kv_NoText : PySem.W.kitOne K (.ref C_NoText) (.type "ValueError") = some true
  dg : XD.digB K = true
section
variable {w : World} {K : PySem.W.Frag} {mg : Str → Option Value}
theorem b_NoProgram__init (t : T w K mg) : L2.Binds K t.d_NoProgram__init ["self", "helper", "at"] [] := t.F_NoProgram__init.bindsN fun _ _ _ _ _ _ us hl => match us, hl with | [_, _, _], _ => rfl
theorem b_NoHelper__init (t : T w K mg) : L2.Binds K t.d_NoHelper__init ["self", "name"] [] := t.F_NoHelper__init.bindsN fun _ _ _ _ _ _ us hl => match us, hl with | [_, _], _ => rfl
theorem b_TooLong__init (t : T w K mg) : L2.Binds K t.d_TooLong__init ["self", "most"] [] := t.F_TooLong__init.bindsN fun _ _ _ _ _ _ us hl => match us, hl with | [_, _], _ => rfl
theorem b_NoHand__init (t : T w K mg) : L2.Binds K t.d_NoHand__init ["self", "hand"] [] := t.F_NoHand__init.bindsN fun _ _ _ _ _ _ us hl => match us, hl with | [_, _], _ => rfl
theorem b_is_whole (t : T w K mg) : L2.Binds K t.d_is_whole ["thing"] [] := t.F_is_whole.bindsN fun _ _ _ _ _ _ us hl => match us, hl with | [_], _ => rfl
theorem b_is_name (t : T w K mg) : L2.Binds K t.d_is_name ["thing"] [] := t.F_is_name.bindsN fun _ _ _ _ _ _ us hl => match us, hl with | [_], _ => rfl
theorem b1_is_expression (t : T w K mg) : ∃ ds, Vals ([V.int 5] : List V) ds ∧ L2.Binds K t.d_is_expression ["thing", "most"] ds := t.F_is_expression.binds1 1 0 (by simp) (by rfl) fun _ _ _ _ _ _ _ us its hl hi => match us, its, hl, hi with | [_], [_], _, _ => ⟨_, rfl, rfl⟩
theorem b2_is_expression (t : T w K mg) : L2.Binds K t.d_is_expression ["thing", "most"] [] := by
  obtain ⟨ds, hv, hb⟩ := FunD.binds1 t.F_is_expression 2 1 (by simp) (by rfl) (fun _ _ _ _ _ _ _ us its hl hi => match us, its, hl, hi with | [_, _], [_], _, _ => ⟨_, rfl, rfl⟩) (ps := ["thing", "most"])
  cases hv
  exact hb
theorem b_is_step (t : T w K mg) : L2.Binds K t.d_is_step ["thing", "names", "behind"] [] := t.F_is_step.bindsN fun _ _ _ _ _ _ us hl => match us, hl with | [_, _, _], _ => rfl
theorem b_has_form (t : T w K mg) : L2.Binds K t.d_has_form ["thing"] [] := t.F_has_form.bindsN fun _ _ _ _ _ _ us hl => match us, hl with | [_], _ => rfl
theorem b_first_wrong (t : T w K mg) : L2.Binds K t.d_first_wrong ["program"] [] := t.F_first_wrong.bindsN fun _ _ _ _ _ _ us hl => match us, hl with | [_], _ => rfl
theorem b_is_program (t : T w K mg) : L2.Binds K t.d_is_program ["thing"] [] := t.F_is_program.bindsN fun _ _ _ _ _ _ us hl => match us, hl with | [_], _ => rfl
theorem b_show_expression (t : T w K mg) : L2.Binds K t.d_show_expression ["expression"] [] := t.F_show_expression.bindsN fun _ _ _ _ _ _ us hl => match us, hl with | [_], _ => rfl
theorem b_show_step (t : T w K mg) : L2.Binds K t.d_show_step ["step"] [] := t.F_show_step.bindsN fun _ _ _ _ _ _ us hl => match us, hl with | [_], _ => rfl
theorem b_show_program (t : T w K mg) : L2.Binds K t.d_show_program ["program"] [] := t.F_show_program.bindsN fun _ _ _ _ _ _ us hl => match us, hl with | [_], _ => rfl
theorem b_read_number (t : T w K mg) : L2.Binds K t.d_read_number ["text"] [] := t.F_read_number.bindsN fun _ _ _ _ _ _ us hl => match us, hl with | [_], _ => rfl
theorem b_parted (t : T w K mg) : L2.Binds K t.d_parted ["text"] [] := t.F_parted.bindsN fun _ _ _ _ _ _ us hl => match us, hl with | [_], _ => rfl
theorem b1_read_expression (t : T w K mg) : ∃ ds, Vals ([V.int 5] : List V) ds ∧ L2.Binds K t.d_read_expression ["text", "most"] ds := t.F_read_expression.binds1 1 0 (by simp) (by rfl) fun _ _ _ _ _ _ _ us its hl hi => match us, its, hl, hi with | [_], [_], _, _ => ⟨_, rfl, rfl⟩
theorem b2_read_expression (t : T w K mg) : L2.Binds K t.d_read_expression ["text", "most"] [] := by
  obtain ⟨ds, hv, hb⟩ := FunD.binds1 t.F_read_expression 2 1 (by simp) (by rfl) (fun _ _ _ _ _ _ _ us its hl hi => match us, its, hl, hi with | [_, _], [_], _, _ => ⟨_, rfl, rfl⟩) (ps := ["text", "most"])
  cases hv
  exact hb
theorem b_read_step (t : T w K mg) : L2.Binds K t.d_read_step ["text"] [] := t.F_read_step.bindsN fun _ _ _ _ _ _ us hl => match us, hl with | [_], _ => rfl
theorem b_read_helper (t : T w K mg) : L2.Binds K t.d_read_helper ["text"] [] := t.F_read_helper.bindsN fun _ _ _ _ _ _ us hl => match us, hl with | [_], _ => rfl
theorem b_read_program (t : T w K mg) : L2.Binds K t.d_read_program ["text"] [] := t.F_read_program.bindsN fun _ _ _ _ _ _ us hl => match us, hl with | [_], _ => rfl
theorem b_law_cell_at (t : T w K mg) : L2.Binds K t.d_law_cell_at ["script", "k"] [] := t.F_law_cell_at.bindsN fun _ _ _ _ _ _ us hl => match us, hl with | [_, _], _ => rfl
theorem b_law_bag (t : T w K mg) : L2.Binds K t.d_law_bag ["cell", "place"] [] := t.F_law_bag.bindsN fun _ _ _ _ _ _ us hl => match us, hl with | [_, _], _ => rfl
theorem b_law_draw (t : T w K mg) : L2.Binds K t.d_law_draw ["bag", "many"] [] := t.F_law_draw.bindsN fun _ _ _ _ _ _ us hl => match us, hl with | [_, _], _ => rfl
theorem b_law_sign (t : T w K mg) : L2.Binds K t.d_law_sign ["bag"] [] := t.F_law_sign.bindsN fun _ _ _ _ _ _ us hl => match us, hl with | [_], _ => rfl
theorem b_law_is_name (t : T w K mg) : L2.Binds K t.d_law_is_name ["thing"] [] := t.F_law_is_name.bindsN fun _ _ _ _ _ _ us hl => match us, hl with | [_], _ => rfl
theorem b_law_is_whole (t : T w K mg) : L2.Binds K t.d_law_is_whole ["thing"] [] := t.F_law_is_whole.bindsN fun _ _ _ _ _ _ us hl => match us, hl with | [_], _ => rfl
theorem b_law_is_expression (t : T w K mg) : L2.Binds K t.d_law_is_expression ["thing", "most"] [] := t.F_law_is_expression.bindsN fun _ _ _ _ _ _ us hl => match us, hl with | [_, _], _ => rfl
theorem b_law_is_step (t : T w K mg) : L2.Binds K t.d_law_is_step ["thing", "names", "behind"] [] := t.F_law_is_step.bindsN fun _ _ _ _ _ _ us hl => match us, hl with | [_, _, _], _ => rfl
theorem b_law_wrong (t : T w K mg) : L2.Binds K t.d_law_wrong ["program"] [] := t.F_law_wrong.bindsN fun _ _ _ _ _ _ us hl => match us, hl with | [_], _ => rfl
theorem b_law_number_read (t : T w K mg) : L2.Binds K t.d_law_number_read ["text", "at"] [] := t.F_law_number_read.bindsN fun _ _ _ _ _ _ us hl => match us, hl with | [_, _], _ => rfl
theorem b_law_expression_read (t : T w K mg) : L2.Binds K t.d_law_expression_read ["text", "at", "most"] [] := t.F_law_expression_read.bindsN fun _ _ _ _ _ _ us hl => match us, hl with | [_, _, _], _ => rfl
theorem b_law_letters (t : T w K mg) : L2.Binds K t.d_law_letters ["text", "at"] [] := t.F_law_letters.bindsN fun _ _ _ _ _ _ us hl => match us, hl with | [_, _], _ => rfl
theorem b_law_step_read (t : T w K mg) : L2.Binds K t.d_law_step_read ["text", "at"] [] := t.F_law_step_read.bindsN fun _ _ _ _ _ _ us hl => match us, hl with | [_, _], _ => rfl
theorem b_law_helper_read (t : T w K mg) : L2.Binds K t.d_law_helper_read ["text", "at"] [] := t.F_law_helper_read.bindsN fun _ _ _ _ _ _ us hl => match us, hl with | [_, _], _ => rfl
theorem b_law_read (t : T w K mg) : L2.Binds K t.d_law_read ["text"] [] := t.F_law_read.bindsN fun _ _ _ _ _ _ us hl => match us, hl with | [_], _ => rfl
theorem b_law_plain_refusal (t : T w K mg) : L2.Binds K t.d_law_plain_refusal ["caught"] [] := t.F_law_plain_refusal.bindsN fun _ _ _ _ _ _ us hl => match us, hl with | [_], _ => rfl
theorem b_law_asked (t : T w K mg) : L2.Binds K t.d_law_asked ["text"] [] := t.F_law_asked.bindsN fun _ _ _ _ _ _ us hl => match us, hl with | [_], _ => rfl
theorem b_law_long (t : T w K mg) : L2.Binds K t.d_law_long ["bag"] [] := t.F_law_long.bindsN fun _ _ _ _ _ _ us hl => match us, hl with | [_], _ => rfl
theorem b_law (t : T w K mg) : L2.Binds K t.d_law ["script"] [] := t.F_law.bindsN fun _ _ _ _ _ _ us hl => match us, hl with | [_], _ => rfl
end
end K55
namespace K55
open PySem PySem.Spec PyProof.Rows L2 PreX
variable {P : Program} {w : World} {K : PySem.W.Frag} {mg : Str → Option Value} {base : Heap}

/-- what isinstance(data, T) tells -/
def isT (T : String) (d : PyData) : Bool := (kitB (tyN d) T).getD false
theorem kit_isT {K : PySem.W.Frag} (T : String) (h : ∀ n ∈ ["NoneType", "bool", "int", "str", "list", "tuple", "dict"], (kitB n T).isSome = true) (d : PyData) : PySem.W.kitOne K (.type (tyN d)) (.type T) = some (isT T d) := by
  refine kit_ty ?_
  have q : (kitB (tyN d) T).isSome = true := h _ (by cases d <;> simp [tyN])
  unfold isT
  cases e : kitB (tyN d) T with
  | none => rw [e] at q; cases q
  | some b => rfl
theorem kit_int {K : PySem.W.Frag} (d : PyData) : PySem.W.kitOne K (.type (tyN d)) (.type "int") = some (isT "int" d) := kit_isT _ (by decide +kernel) d
theorem kit_bool {K : PySem.W.Frag} (d : PyData) : PySem.W.kitOne K (.type (tyN d)) (.type "bool") = some (isT "bool" d) := kit_isT _ (by decide +kernel) d
theorem kit_str {K : PySem.W.Frag} (d : PyData) : PySem.W.kitOne K (.type (tyN d)) (.type "str") = some (isT "str" d) := kit_isT _ (by decide +kernel) d
theorem kit_tuple {K : PySem.W.Frag} (d : PyData) : PySem.W.kitOne K (.type (tyN d)) (.type "tuple") = some (isT "tuple" d) := kit_isT _ (by decide +kernel) d
theorem kit_list {K : PySem.W.Frag} (d : PyData) : PySem.W.kitOne K (.type (tyN d)) (.type "list") = some (isT "list" d) := kit_isT _ (by decide +kernel) d

def isWhole : PyData → Bool | .int _ => true | _ => false
theorem isWhole_eq (d : PyData) : (isT "int" d && !isT "bool" d) = isWhole d := by cases d <;> rfl
def spWhole : Sp := fun vs H Q _ => ∃ v d, vs = [v] ∧ Dt H v d ∧ Q (.bl (isWhole d)) H
theorem ok_is_whole (t : T w K mg) : FnOk P w K mg base CX0 1 t.a_is_whole t.d_is_whole ["thing"] spWhole := by
  refine t.F_is_whole.ok sc_is_whole (fun vs H Q E h => ?_) (fun cdv A outer s H vs Q E hr h => ?_)
  · obtain ⟨v, d, rfl, _⟩ := h
    rfl
  obtain ⟨v, d, rfl, hd, q⟩ := h
  refine ⟨_, PSs.nox ((pss_one (ps_ret (pe_and (pe_callB (call_isi_k K rfl) (by rfl) t.z_isinstance (by decide +kernel) (pa_cons (pv 0) (pa_cons (pe_bltn (v := .ty "int") (by rfl) t.z_int (by decide +kernel) rfl) pa_nil))) (pe_one (pe_not (pe_callB (call_isi_k K rfl) (by rfl) t.z_isinstance (by decide +kernel) (pa_cons (pv 0) (pa_cons (pe_bltn (v := .ty "bool") (by rfl) t.z_bool (by decide +kernel) rfl) pa_nil))))))))), ?_⟩
  refine ⟨_, rfl, _, _, _, _, _, rfl, .ty _, hd.ty, kit_int d, ?_⟩
  refine ⟨_, rfl, ite2 (fun c => ?_) (fun c => ?_)⟩
  · refine ⟨_, rfl, _, _, _, _, _, rfl, .ty _, hd.ty, kit_bool d, _, rfl, ?_⟩
    have e := isWhole_eq d
    rw [c] at e
    rw [← e] at q
    exact q
  · have e := isWhole_eq d
    rw [Bool.eq_false_iff.mpr c] at e
    rw [← e] at q
    exact q
end K55
namespace K55
open PySem PySem.Spec PyProof.Rows L2 PreX FG
variable {P : Program} {w : World} {K : PySem.W.Frag} {mg : Str → Option Value} {base : Heap}

theorem cs_letters : (Str.ofString "abcdefghijklmnopqrstuvwxyz").cps.toList = [97, 98, 99, 100, 101, 102, 103, 104, 105, 106, 107, 108, 109, 110, 111, 112, 113, 114, 115, 116, 117, 118, 119, 120, 121, 122] := by decide +kernel
theorem in_letters (c : Nat) : decide (c ∈ (Str.ofString "abcdefghijklmnopqrstuvwxyz").cps.toList) = small c := by
  rw [cs_letters]
  unfold small
  by_cases h : 97 ≤ c ∧ c ≤ 122
  · obtain ⟨h1, h2⟩ := h
    have e : c ∈ [97, 98, 99, 100, 101, 102, 103, 104, 105, 106, 107, 108, 109, 110, 111, 112, 113, 114, 115, 116, 117, 118, 119, 120, 121, 122] := by
      simp only [List.mem_cons, List.not_mem_nil, or_false]; omega
    rw [decide_eq_true e, decide_eq_true h1, decide_eq_true h2]; rfl
  · have e : c ∉ [97, 98, 99, 100, 101, 102, 103, 104, 105, 106, 107, 108, 109, 110, 111, 112, 113, 114, 115, 116, 117, 118, 119, 120, 121, 122] := by
      simp only [List.mem_cons, List.not_mem_nil, or_false]; omega
    rw [decide_eq_false e]
    by_cases h1 : 97 ≤ c
    · have h2 : ¬ c ≤ 122 := fun q => h ⟨h1, q⟩
      rw [decide_eq_false h2, Bool.and_false]
    · rw [decide_eq_false h1, Bool.false_and]
def spName : Sp := fun vs H Q _ => ∃ l : L, vs = [.str (S l)] ∧ l.length ≤ sizeLine ∧ ∀ H', Same H H' → Q (.bl (isName l)) H'
theorem ok_is_name (t : T w K mg) : FnOk P w K mg base CX0 1 t.a_is_name t.d_is_name ["thing"] spName := by
  refine t.F_is_name.ok sc_is_name (fun vs H Q E h => ?_) (fun cdv A outer s H vs Q E hr h => ?_)
  · obtain ⟨l, rfl, _⟩ := h
    rfl
  obtain ⟨l, rfl, hl, q⟩ := h
  have hl' : (S l).length ≤ sizeLine := by rw [S_len]; exact hl
  refine ⟨_, PSs.nox ((pss_cons (ps_if (PW.pt (pw_or (pt_not (pt_val (pe_callB (call_isi_k K rfl) (by rfl) t.z_isinstance (by decide +kernel) (pa_cons (pv 0) (pa_cons (pe_bltn (v := .ty "str") (by rfl) t.z_str (by decide +kernel) rfl) pa_nil))))) (pw_or (pt_cmpR op_lt (pe_callB call_len_str (by rfl) t.z_len (by decide +kernel) (pa_cons (pv 0) pa_nil)) pe_int (by first | exact nomark _ | rfl)) (pw_or1 (pt_cmpR op_gt (pe_callB call_len_str (by rfl) t.z_len (by decide +kernel) (pa_cons (pv 0) pa_nil)) (pe_glob (v := V.int 8) rfl t.k_LONGEST_NAME.choose_spec ⟨_, rfl⟩) (by first | exact nomark _ | rfl)))))) (pss_one (ps_ret pe_bl))
    pss_nil)
    (pss_one (ps_ret (pe_callB (cr_all_k K rfl rfl) (by rfl) t.z_all (by decide +kernel) (pa_cons (pe_lc (own := [("sign", 1)]) (g := gName 1) (tt := tYes) rfl sc_is_name.nd (pi_str (pv 0)) (blkOk_by (own := [("sign", 1)]) (N := N_is_name) (sc := defScope s_is_name) (by decide +kernel)) (fun _ _ _ _ _ => (pg_name (i := 1) sc_is_name.nd rfl (by first | exact Or.inl rfl | exact Or.inr rfl))) (fun _ _ _ _ _ => pts_nil) (fun _ _ _ _ _ => (pe_cmpR op_in_sign (pv 1) (pe_glob (v := V.str ("abcdefghijklmnopqrstuvwxyz" : Str)) rfl t.k_LETTERS.choose_spec ⟨_, rfl⟩) (by first | exact nomark _ | rfl)))) pa_nil)))))), ?_⟩
  refine ⟨_, rfl, _, _, _, _, _, rfl, .ty _, (Dt.str _).ty, kit_str _, _, rfl, ?_⟩
  refine iteF ⟨_, rfl, _, rfl, hl', _, _, rfl, rfl, _, rfl, ite2 (fun c => ?_) (fun c => ?_)⟩
  · have c' : ((S l).length : Int) < 1 := of_decide_eq_true c
    rw [S_len] at c'
    refine iteT (show Q _ _ from ?_)
    have e : isName l = false := by unfold isName; rw [decide_eq_false (by omega : ¬ 1 ≤ l.length)]; rfl
    have q' := q H (Same.refl _)
    rw [e] at q'; exact q'
  have c' : ¬ ((S l).length : Int) < 1 := of_decide_eq_false (Bool.eq_false_iff.mpr c)
  rw [S_len] at c'
  refine ⟨_, rfl, _, rfl, hl', _, _, rfl, rfl, _, rfl, ite2 (fun c2 => ?_) (fun c2 => ?_)⟩
  · have c2' : (8 : Int) < ((S l).length : Int) := of_decide_eq_true c2
    rw [S_len] at c2'
    have e : isName l = false := by unfold isName; rw [decide_eq_false (by omega : ¬ l.length ≤ 8), Bool.and_false]; rfl
    have q' := q H (Same.refl _)
    rw [e] at q'; exact q'
  have c2' : ¬ (8 : Int) < ((S l).length : Int) := of_decide_eq_false (Bool.eq_false_iff.mpr c2)
  rw [S_len] at c2'
  refine ⟨_, rfl, _, rfl, fun D hD => ?_⟩
  refine lc_it walk_str (fun i H' => Same H (hid D H') ∧ H' D = some (.lst ((l.take i).map fun c => V.bl (small c)))) ⟨by rw [hid_upd]; exact same_hid hD (Same.refl _), upd_same⟩ (fun _ _ _ _ => trivial) (fun i x H1 H2 hi ⟨p1, p2⟩ y => ?_) (fun H1 ⟨p1, p2⟩ => ?_)
  · obtain ⟨rfl, c0, hc, rfl⟩ := y
    have hc : l[i]? = some c0 := by simpa [S] using hc
    refine ⟨rfl, _, rfl, c0, _, rfl, rfl, ?_⟩
    have hlt : (l.take i).length ≤ 8 := by rw [List.length_take]; omega
    refine ⟨_, p2, by rw [List.length_map]; exact small1000 (by omega), ?_, ?_⟩
    · rw [hid_upd]; exact p1
    · rw [upd_same, List.take_add_one, hc, List.map_append]
      simp only [Option.toList_some, List.map_cons, List.map_nil]
      rw [in_letters]
  · have e : (S l).cps.size = l.length := S_len l
    rw [e, List.take_length] at p2
    refine ⟨D, l.map small, rfl, SqL.of (by rw [List.map_map]; exact p2), ?_⟩
    have e2 : isName l = (l.map small).all id := by
      unfold isName
      rw [decide_eq_true (by omega : 1 ≤ l.length), decide_eq_true (by omega : l.length ≤ 8), List.all_map]
      rfl
    rw [← e2]
    exact q _ (fun b o hb => hid_le _ _ (p1 b o hb))
end K55
namespace K55
open PySem PySem.Spec PyProof.Rows L2 PreX FG
variable {P : Program} {w : World} {K : PySem.W.Frag} {mg : Str → Option Value} {base : Heap}

theorem cutV_tail (x : V) (xs : List V) : cutV (x :: xs) (some 1) none = xs := by
  unfold cutV
  have e : HT.sIx (x :: xs).length 0 (some 1) = 1 := by
    have := HT.sIx_nat (x :: xs).length 0 1
    rw [show ((1 : Nat) : Int) = (1 : Int) from rfl] at this
    rw [this, List.length_cons]; omega
  rw [e, HT.sIx_none, List.drop_one, List.tail_cons, List.length_cons, Nat.add_sub_cancel, List.take_length]
theorem parts_keys {l : L} (h : parts l = none) : S l ∉ (["arg", "cell", "add", "less", "least"] : List Str) := by
  unfold parts at h
  intro q
  simp only [List.mem_cons, List.not_mem_nil, or_false, ofS, S_eq] at q
  rcases q with q | q | q | q | q <;> subst q <;> revert h <;> decide
theorem parts_ns (t : T w K mg) (l : L) : (parts l = none ∧ PySem.W.nsIn K t.A_PARTS (S l) = some none) ∨ ∃ n u, parts l = some n ∧ PySem.W.nsIn K t.A_PARTS (S l) = some (some u) ∧ RelV (.int (n : Int)) u := by
  by_cases h1 : l = wArg
  · subst h1; obtain ⟨u, e, r⟩ := t.kv_PARTS_arg
    exact .inr ⟨0, u, by decide, by rw [← show Str.ofString "arg" = S wArg from ofS _]; exact e, r⟩
  by_cases h2 : l = wCell
  · subst h2; obtain ⟨u, e, r⟩ := t.kv_PARTS_cell
    exact .inr ⟨1, u, by decide, by rw [← show Str.ofString "cell" = S wCell from ofS _]; exact e, r⟩
  by_cases h3 : l = wAdd
  · subst h3; obtain ⟨u, e, r⟩ := t.kv_PARTS_add
    exact .inr ⟨2, u, by decide, by rw [← show Str.ofString "add" = S wAdd from ofS _]; exact e, r⟩
  by_cases h4 : l = wLess
  · subst h4; obtain ⟨u, e, r⟩ := t.kv_PARTS_less
    exact .inr ⟨2, u, by decide, by rw [← show Str.ofString "less" = S wLess from ofS _]; exact e, r⟩
  by_cases h5 : l = wLeast
  · subst h5; obtain ⟨u, e, r⟩ := t.kv_PARTS_least
    exact .inr ⟨2, u, by decide, by rw [← show Str.ofString "least" = S wLeast from ofS _]; exact e, r⟩
  have e : parts l = none := by unfold parts; rw [if_neg h1, if_neg h2, if_neg h3, if_neg h4, if_neg h5]
  exact .inl ⟨e, nsIn_out t.kw_PARTS (parts_keys e)⟩

def spExpr (n : Nat) : Sp := fun vs H Q _ => ∃ (v : V) (m : Int) (e : GE), vs = [v, .int m] ∧ m.toNat < n ∧ Dt H v e.d ∧ ∀ H', Same H H' → Q (.bl (e.ok m.toNat)) H'
theorem ok_is_expression_n (t : T w K mg) {n : Nat} (G : FnOk P w K mg base CX0 (n + 1) t.a_is_expression t.d_is_expression ["thing", "most"] (spExpr n)) :
    FnOk P w K mg base CX0 (n + 2) t.a_is_expression t.d_is_expression ["thing", "most"] (spExpr (n + 1)) := by
  refine t.F_is_expression.ok sc_is_expression (fun vs H Q E h => ?_) (fun cdv A outer s H vs Q E hr h => ?_)
  · obtain ⟨v, m, e, rfl, _⟩ := h
    rfl
  obtain ⟨v, m, e, rfl, hm, hd, q⟩ := h
  refine ⟨_, PSs.nox ((pss_cons (ps_if (pt_cmpR op_lt (pv 1) pe_int (by first | exact nomark _ | rfl)) (pss_one (ps_ret pe_bl))
    pss_nil)
    (pss_cons (ps_if (pt_val (pe_call (ok_is_whole t) (hr.mono (by omega)) rfl t.g_is_whole t.F_is_whole.kp (b_is_whole t) .nil pass0 (pa_cons (pv 0) pa_nil))) (pss_one (ps_ret pe_bl))
    pss_nil)
    (pss_cons (ps_if (PW.pt (pw_or (pt_not (pt_val (pe_callB (call_isi_k K rfl) (by rfl) t.z_isinstance (by decide +kernel) (pa_cons (pv 0) (pa_cons (pe_bltn (v := .ty "tuple") (by rfl) t.z_tuple (by decide +kernel) rfl) pa_nil))))) (pw_or (pt_cmpR op_lt (pe_callB (call_len_seq_k K rfl) (by rfl) t.z_len (by decide +kernel) (pa_cons (pv 0) pa_nil)) pe_int (by first | exact nomark _ | rfl)) (pw_or1 (pt_not (pt_val (pe_callB (call_isi_k K rfl) (by rfl) t.z_isinstance (by decide +kernel) (pa_cons (pe_ix (ix_tup_k K rfl) (pv 0) pe_int (fun _ _ => rfl)) (pa_cons (pe_bltn (v := .ty "str") (by rfl) t.z_str (by decide +kernel) rfl) pa_nil))))))))) (pss_one (ps_ret pe_bl))
    pss_nil)
    (pss_cons (ps_if (PW.pt (pw_or (pt_cmpR (op_notIn_kd t.kd_PARTS.choose_spec.choose_spec) (pe_ix (ix_tup_k K rfl) (pv 0) pe_int (fun _ _ => rfl)) (pe_glob (v := .ref t.A_PARTS) rfl t.g_PARTS rfl) (by first | exact nomark _ | rfl)) (pw_or1 (pt_cmpR op_ne (pe_callB (call_len_seq_k K rfl) (by rfl) t.z_len (by decide +kernel) (pa_cons (pv 0) pa_nil)) (pe_op op_add (pe_ix (ix_kd t.kd_PARTS.choose_spec.choose_spec) (pe_glob (v := .ref t.A_PARTS) rfl t.g_PARTS rfl) (pe_ix (ix_tup_k K rfl) (pv 0) pe_int (fun _ _ => rfl)) (fun _ _ => rfl)) pe_int) (by first | exact nomark _ | rfl))))) (pss_one (ps_ret pe_bl))
    pss_nil)
    (pss_one (ps_ret (pe_callB (cr_all_k K rfl rfl) (by rfl) t.z_all (by decide +kernel) (pa_cons (pe_lc (own := [("one", 2)]) (g := gName 2) (tt := tYes) rfl sc_is_expression.nd (pi_tup_k K rfl (pe_slice (sl_tup_k K rfl) (pv 0) (po_some pe_int) po_none)) (blkOk_by (own := [("one", 2)]) (N := N_is_expression) (sc := defScope s_is_expression) (by decide +kernel)) (fun _ _ _ _ _ => (pg_name (i := 2) sc_is_expression.nd rfl (by first | exact Or.inl rfl | exact Or.inr rfl))) (fun _ _ _ _ _ => pts_nil) (fun _ _ _ _ _ => (pe_call G (hr.mono (by omega)) rfl t.g_is_expression t.F_is_expression.kp (b2_is_expression t) .nil pass0 (pa_cons (pv 2) (pa_cons (pe_op op_sub (pv 1) pe_int) pa_nil))))) pa_nil))))))))), ?_⟩
  refine ⟨_, rfl, _, _, rfl, rfl, _, rfl, iteD (fun c => ?_) (fun c => ?_)⟩
  · have z : m.toNat = 0 := by omega
    rw [z] at q
    cases e <;> exact q H (Same.refl _)
  obtain ⟨k, hk⟩ : ∃ k, m.toNat = k + 1 := ⟨m.toNat - 1, by omega⟩
  refine ⟨_, rfl, v, e.d, rfl, hd, _, rfl, ?_⟩
  cases e with
  | num i =>
    rw [hk] at q
    exact iteT (q H (Same.refl _))
  | node l as =>
    cases hd with
    | @tup a xs _ ha hx =>
    cases hx with
    | @cons v0 vs _ _ h0 hx =>
    cases h0
    have hT : Dt H (.ref a) (GE.node l as).d := .tup ha (.cons (.str _) hx)
    have hlen : vs.length = as.length := by rw [hx.length, GE.ds_map, List.length_map]
    refine iteF ⟨_, rfl, _, _, _, _, _, rfl, .ty _, hT.ty, kit_tuple _, _, rfl, iteF ?_⟩
    refine ⟨_, rfl, a, _, rfl, .inr (SqT.of ha), _, _, rfl, rfl, _, rfl, iteD (fun c => ?_) (fun c => ?_)⟩
    · exfalso
      rw [List.length_cons] at c
      omega
    refine ⟨_, rfl, a, _, _, V.str (S l), rfl, rfl, SqT.of ha, at0, _, _, _, _, _, rfl, .ty _, (Dt.str _).ty, kit_str _, _, rfl, iteF ?_⟩
    rcases parts_ns t l with ⟨e1, e2⟩ | ⟨j, u, e1, e2, e3⟩
    · refine ⟨_, rfl, a, _, _, V.str (S l), rfl, rfl, SqT.of ha, at0, S l, _, rfl, rfl, e2, _, rfl, iteT (iteT ?_)⟩
      have z : (GE.node l as).ok m.toNat = false := by rw [hk, GE.ok, e1]; rfl
      rw [z] at q
      exact q H (Same.refl _)
    · refine ⟨_, rfl, a, _, _, V.str (S l), rfl, rfl, SqT.of ha, at0, S l, _, rfl, rfl, e2, _, rfl, iteF ?_⟩
      refine ⟨_, rfl, a, _, rfl, .inr (SqT.of ha), ?_⟩
      refine ⟨_, rfl, a, _, _, V.str (S l), rfl, rfl, SqT.of ha, at0, S l, u, _, rfl, rfl, e2, e3, ?_⟩
      refine ⟨_, _, rfl, rfl, rfl, _, rfl, iteDN (fun c => ?_) (fun c => ?_)⟩
      · have z : (GE.node l as).ok m.toNat = false := by
          rw [hk, GE.ok, e1, decide_eq_false, Bool.false_and]
          intro z
          refine c ?_
          have z2 := Option.some.inj z
          rw [List.length_cons, hlen, ← z2]
          rfl
        rw [z] at q
        exact q H (Same.refl _)
      have c2 : as.length = j := by
        have c3 := V.int.inj c
        rw [List.length_cons, hlen] at c3
        omega
      have z : (GE.node l as).ok m.toNat = GE.oks k as := by rw [hk, GE.ok, e1, c2, decide_eq_true rfl, Bool.true_and]
      rw [z] at q
      refine ⟨_, rfl, _, rfl, a, _, rfl, SqT.of ha, ?_, fun p hp => ?_⟩
      · intro ⟨z1, _⟩
        have := HT.sIx_nat (V.str (S l) :: vs).length 0 1
        rw [show ((1 : Nat) : Int) = (1 : Int) from rfl] at this
        rw [this, List.length_cons] at z1
        omega
      rw [cutV_tail]
      refine ⟨p, rfl, ⟨_, SqT.of upd_same⟩, fun D hD => ?_⟩
      have hDp : p ≠ D := ne_of_none upd_same hD
      have hD0 : H D = none := by rw [upd_ne hDp.symm] at hD; exact hD
      have hx' := DtA.mono (same_new (o := .tup vs) hp) hx
      refine lc_it (walk_tup (K := K) (xs := vs)) (fun i H' => Same (upd H p (.tup vs)) (hid D H') ∧ H' D = some (.lst ((as.take i).map fun e => V.bl (e.ok k))))
        ⟨by rw [hid_upd]; exact same_hid hD (Same.refl _), upd_same⟩ (fun i H' _ ⟨p1, _⟩ => SqT.of (hid_le _ _ (p1 p _ upd_same))) (fun i x H1 H2 hi ⟨p1, p2⟩ y => ?_) (fun H1 ⟨p1, p2⟩ => ?_)
      · obtain ⟨rfl, hxi⟩ := y
        obtain ⟨d, hd1, hd2⟩ := hx'.get hxi
        rw [GE.ds_map, List.getElem?_map] at hd1
        obtain ⟨e, he, rfl⟩ := Option.map_eq_some_iff.mp hd1
        refine ⟨rfl, _, rfl, _, rfl, _, _, rfl, rfl, x, m - 1, e, rfl, by omega, (hd2.mono p1).mono hid_le, fun H3 s3 => ?_⟩
        refine ⟨_, s3 _ _ p2, ?_, ?_, ?_⟩
        · rw [List.length_map, List.length_take]
          refine small1000 ?_
          have : j ≤ 2 := by
            unfold parts at e1
            split at e1
            · cases e1; omega
            split at e1
            · cases e1; omega
            split at e1
            · cases e1; omega
            split at e1
            · cases e1; omega
            split at e1
            · cases e1; omega
            · cases e1
          omega
        · rw [hid_upd]; exact p1.trans (hid_same s3)
        · rw [upd_same, List.take_add_one, he, List.map_append]
          simp only [Option.toList_some, List.map_cons, List.map_nil]
          rw [show (m - 1).toNat = k by omega]
      · rw [hlen, List.take_length] at p2
        refine ⟨D, as.map (GE.ok k), rfl, SqL.of (by rw [List.map_map]; exact p2), ?_⟩
        have e2 : GE.oks k as = (as.map (GE.ok k)).all id := by rw [GE.oks_all, List.all_map]; rfl
        rw [← e2]
        exact q _ (fun b o hb => hid_le _ _ (p1 b o (same_new hp _ _ hb)))
theorem ok_is_expression_lv (t : T w K mg) : ∀ n : Nat, FnOk P w K mg base CX0 (n + 1) t.a_is_expression t.d_is_expression ["thing", "most"] (spExpr n)
  | 0 => none_sp fun vs H Q E h => by
    obtain ⟨v, m, e, _, h1, _⟩ := h
    omega
  | n + 1 => ok_is_expression_n t (ok_is_expression_lv t n)
theorem ok_is_expression (t : T w K mg) : FnOk P w K mg base CX0 7 t.a_is_expression t.d_is_expression ["thing", "most"] (spExpr 6) := ok_is_expression_lv t 6
end K55
namespace K55
open PySem PySem.Spec PyProof.Rows L2 PreX FG
variable {P : Program} {w : World} {K : PySem.W.Frag} {mg : Str → Option Value} {base : Heap}

theorem vstr {l : L} {s : String} : V.str (S l) = V.str (Str.ofString s) ↔ l = cs s := by
  rw [ofS]
  exact ⟨fun h => S_inj (V.str.inj h), fun h => by rw [h]⟩
theorem inV_strs (n : L) (ns : List L) : inV (.str (S n)) (ns.map fun x => V.str (S x)) = decide (n ∈ ns) := by
  unfold inV
  rw [List.any_map]
  by_cases h : n ∈ ns
  · rw [decide_eq_true h, List.any_eq_true]
    exact ⟨n, h, by simp [eqV]⟩
  · rw [decide_eq_false h, List.any_eq_false]
    intro x hx
    show ¬ ((S x == S n) = true)
    rw [beq_iff_eq]
    intro e
    exact h (S_inj e ▸ hx)
def spStep : Sp := fun vs H Q _ => ∃ (v : V) (s : GS) (nb : Addr) (names : List L) (m : Int), vs = [v, .ref nb, .int m] ∧ Dt H v s.d ∧ s.plain ∧ H nb = some (.lst (names.map fun x => V.str (S x))) ∧
  (∀ w n e, s = .other w n e → n.length ≤ sizeLine) ∧ ∀ H', Same H H' → Q (.bl (s.ok names m)) H'
theorem dtA1 {H : Hp} {vs : List V} {d : PyData} (h : DtA H vs [d]) : ∃ v, vs = [v] ∧ Dt H v d := by
  cases h with
  | cons h a => cases a; exact ⟨_, rfl, h⟩
theorem dtA2 {H : Hp} {vs : List V} {d e : PyData} (h : DtA H vs [d, e]) : ∃ v u, vs = [v, u] ∧ Dt H v d ∧ Dt H u e := by
  cases h with
  | cons h a =>
    obtain ⟨u, rfl, h2⟩ := dtA1 a
    exact ⟨_, _, rfl, h, h2⟩
theorem dtA3 {H : Hp} {vs : List V} {d e f : PyData} (h : DtA H vs [d, e, f]) : ∃ v u x, vs = [v, u, x] ∧ Dt H v d ∧ Dt H u e ∧ Dt H x f := by
  cases h with
  | cons h a =>
    obtain ⟨u, x, rfl, h2⟩ := dtA2 a
    exact ⟨_, _, _, rfl, h, h2⟩
theorem dt_tup {H : Hp} {v : V} {ds : List PyData} (h : Dt H v (.tuple ds)) : ∃ a vs, v = .ref a ∧ H a = some (.tup vs) ∧ DtA H vs ds := by
  cases h with
  | tup h a => exact ⟨_, _, rfl, h, a⟩
theorem dt_lst {H : Hp} {v : V} {ds : List PyData} (h : Dt H v (.list ds)) : ∃ a vs, v = .ref a ∧ H a = some (.lst vs) ∧ DtA H vs ds := by
  cases h with
  | lst h a => exact ⟨_, _, rfl, h, a⟩
theorem dt_str {H : Hp} {v : V} {x : Str} (h : Dt H v (.str x)) : v = .str x := by cases h; rfl
theorem dt_int {H : Hp} {v : V} {i : Int} (h : Dt H v (.int i)) : v = .int i := by cases h; rfl
theorem gs_shape (s : GS) : ∃ l ds, s.d = .tuple (.str (S l) :: ds) ∧ ds.length ≤ 2 := by
  cases s <;> exact ⟨_, _, rfl, by simp⟩
theorem ok_is_step (t : T w K mg) : FnOk P w K mg base CX0 8 t.a_is_step t.d_is_step ["thing", "names", "behind"] spStep := by
  refine t.F_is_step.ok sc_is_step (fun vs H Q E h => ?_) (fun cdv A outer s H vs Q E hr h => ?_)
  · obtain ⟨v, s, nb, names, m, rfl, _⟩ := h
    rfl
  obtain ⟨v, s, nb, names, m, rfl, hd, hp, hn, hl, q⟩ := h
  obtain ⟨l, ds, es, hds⟩ := gs_shape s
  have hdt : Dt H v (.tuple (.str (S l) :: ds)) := es ▸ hd
  obtain ⟨a, vs0, rfl, ha, hx⟩ := dt_tup hdt
  cases hx with
  | @cons v0 vs _ _ h0 hx =>
  cases dt_str h0
  have hlen := hx.length
  refine ⟨_, PSs.nox ((pss_cons (ps_if (PW.pt (pw_or (pt_not (pt_val (pe_callB (call_isi_k K rfl) (by rfl) t.z_isinstance (by decide +kernel) (pa_cons (pv 0) (pa_cons (pe_bltn (v := .ty "tuple") (by rfl) t.z_tuple (by decide +kernel) rfl) pa_nil))))) (pw_or (pt_cmpR op_lt (pe_callB (call_len_seq_k K rfl) (by rfl) t.z_len (by decide +kernel) (pa_cons (pv 0) pa_nil)) pe_int (by first | exact nomark _ | rfl)) (pw_or1 (pt_not (pt_val (pe_callB (call_isi_k K rfl) (by rfl) t.z_isinstance (by decide +kernel) (pa_cons (pe_ix (ix_tup_k K rfl) (pv 0) pe_int (fun _ _ => rfl)) (pa_cons (pe_bltn (v := .ty "str") (by rfl) t.z_str (by decide +kernel) rfl) pa_nil))))))))) (pss_one (ps_ret pe_bl))
    pss_nil)
    (pss_cons (ps_set (i := 3) sc_is_step.nd rfl (by first | exact Or.inl rfl | exact Or.inr rfl) (pe_ix (ix_tup_k K rfl) (pv 0) pe_int (fun _ _ => rfl)))
    (pss_cons (ps_if (pt_cmpR op_eq (pv 3) pe_str (by first | exact nomark _ | rfl)) (pss_one (ps_ret (pe_cmpR op_eq (pe_callB (call_len_seq_k K rfl) (by rfl) t.z_len (by decide +kernel) (pa_cons (pv 0) pa_nil)) pe_int (by first | exact nomark _ | rfl))))
    pss_nil)
    (pss_cons (ps_if (pt_cmpR op_ne (pe_callB (call_len_seq_k K rfl) (by rfl) t.z_len (by decide +kernel) (pa_cons (pv 0) pa_nil)) pe_int (by first | exact nomark _ | rfl)) (pss_one (ps_ret pe_bl))
    pss_nil)
    (pss_cons (ps_if (pt_cmpR op_eq (pv 3) pe_str (by first | exact nomark _ | rfl)) (pss_one (ps_ret (pe_and (pe_call (ok_is_expression t) (hr.mono (by decide)) rfl t.g_is_expression t.F_is_expression.kp (b1_is_expression t).choose_spec.2 (b1_is_expression t).choose_spec.1 pass0 (pa_cons (pe_ix (ix_tup_k K rfl) (pv 0) pe_int (fun _ _ => rfl)) pa_nil)) (pe_one (pe_call (ok_is_expression t) (hr.mono (by decide)) rfl t.g_is_expression t.F_is_expression.kp (b1_is_expression t).choose_spec.2 (b1_is_expression t).choose_spec.1 pass0 (pa_cons (pe_ix (ix_tup_k K rfl) (pv 0) pe_int (fun _ _ => rfl)) pa_nil))))))
    pss_nil)
    (pss_cons (ps_if (pt_cmpR op_eq (pv 3) pe_str (by first | exact nomark _ | rfl)) (pss_one (ps_ret (pe_and (pe_call (ok_is_expression t) (hr.mono (by decide)) rfl t.g_is_expression t.F_is_expression.kp (b1_is_expression t).choose_spec.2 (b1_is_expression t).choose_spec.1 pass0 (pa_cons (pe_ix (ix_tup_k K rfl) (pv 0) pe_int (fun _ _ => rfl)) pa_nil)) (pe_and (pe_call (ok_is_whole t) (hr.mono (by decide)) rfl t.g_is_whole t.F_is_whole.kp (b_is_whole t) .nil pass0 (pa_cons (pe_ix (ix_tup_k K rfl) (pv 0) pe_int (fun _ _ => rfl)) pa_nil)) (pe_one (pe_chain op_le op_le pe_int (pe_ix (ix_tup_k K rfl) (pv 0) pe_int (fun _ _ => rfl)) (pv 2)))))))
    pss_nil)
    (pss_cons (ps_if (PW.pt (pw_or (pt_cmpR (op_notIn_seq_k K rfl) (pv 3) (pe_tup (pa_cons pe_str (pa_cons pe_str (pa_cons pe_str pa_nil)))) (by first | exact nomark _ | rfl)) (pw_or (pt_not (pt_val (pe_call (ok_is_name t) (hr.mono (by decide)) rfl t.g_is_name t.F_is_name.kp (b_is_name t) .nil pass0 (pa_cons (pe_ix (ix_tup_k K rfl) (pv 0) pe_int (fun _ _ => rfl)) pa_nil)))) (pw_or1 (pt_not (pt_val (pe_call (ok_is_expression t) (hr.mono (by decide)) rfl t.g_is_expression t.F_is_expression.kp (b1_is_expression t).choose_spec.2 (b1_is_expression t).choose_spec.1 pass0 (pa_cons (pe_ix (ix_tup_k K rfl) (pv 0) pe_int (fun _ _ => rfl)) pa_nil)))))))) (pss_one (ps_ret pe_bl))
    pss_nil)
    (pss_one (ps_ret (pe_or (pe_cmpR op_eq (pv 3) pe_str (by first | exact nomark _ | rfl)) (pe_one (pe_cmpR (op_in_seq_k K rfl) (pe_ix (ix_tup_k K rfl) (pv 0) pe_int (fun _ _ => rfl)) (pv 1) (by first | exact nomark _ | rfl)))))))))))))), ?_⟩
  refine ⟨_, rfl, _, _, _, _, _, rfl, .ty _, hdt.ty, kit_tuple _, _, rfl, iteF ?_⟩
  refine ⟨_, rfl, a, _, rfl, .inr (SqT.of ha), _, _, rfl, rfl, _, rfl, iteD (fun c => ?_) (fun c => ?_)⟩
  · exfalso
    rw [List.length_cons] at c
    omega
  refine ⟨_, rfl, a, _, _, V.str (S l), rfl, rfl, SqT.of ha, at0, _, _, _, _, _, rfl, .ty _, (Dt.str _).ty, kit_str _, _, rfl, iteF ?_⟩
  refine ⟨_, rfl, a, _, _, V.str (S l), rfl, rfl, SqT.of ha, at0, ?_⟩
  cases s with
  | wait =>
    cases es
    cases hx
    refine ⟨_, rfl, rfl, _, rfl, iteD (fun c => ?_) (fun c => absurd (vstr.mpr rfl) c)⟩
    refine ⟨_, rfl, a, _, rfl, .inr (SqT.of ha), rfl, ?_⟩
    exact q H (Same.refl _)
  | cell e1 e2 =>
    cases es
    obtain ⟨v1, v2, rfl, h1, h2⟩ := dtA2 hx
    refine ⟨_, rfl, rfl, _, rfl, iteD (fun c => absurd (vstr.mp c) (by decide)) (fun _ => ?_)⟩
    refine ⟨_, rfl, a, _, rfl, .inr (SqT.of ha), rfl, _, rfl, iteF ?_⟩
    refine ⟨_, rfl, rfl, _, rfl, iteD (fun _ => ?_) (fun c => absurd (vstr.mpr rfl) c)⟩
    refine ⟨_, rfl, a, _, _, v1, rfl, rfl, SqT.of ha, at1, v1, 5, e1, rfl, by decide, h1, fun H1 s1 => ?_⟩
    refine ⟨_, rfl, iteB (fun c => ?_) (fun c => ?_)⟩
    · refine ⟨_, rfl, a, _, _, v2, rfl, rfl, SqT.of (s1 _ _ ha), at2, v2, 5, e2, rfl, by decide, h2.mono s1, fun H2 s2 => ?_⟩
      have z : (GS.cell e1 e2).ok names m = e2.ok (5 : Int).toNat := by
        show (e1.ok 5 && e2.ok 5) = _
        rw [show e1.ok 5 = true from c, Bool.true_and]; rfl
      rw [z] at q
      exact q _ (s1.trans s2)
    · have z : (GS.cell e1 e2).ok names m = false := by
        show (e1.ok 5 && e2.ok 5) = _
        rw [show e1.ok 5 = false from c, Bool.false_and]
      rw [z] at q
      exact q _ s1
  | skip e1 k =>
    cases es
    obtain ⟨v1, v2, rfl, h1, h2⟩ := dtA2 hx
    cases dt_int h2
    refine ⟨_, rfl, rfl, _, rfl, iteD (fun c => absurd (vstr.mp c) (by decide)) (fun _ => ?_)⟩
    refine ⟨_, rfl, a, _, rfl, .inr (SqT.of ha), rfl, _, rfl, iteF ?_⟩
    refine ⟨_, rfl, rfl, _, rfl, iteD (fun c => absurd (vstr.mp c) (by decide)) (fun _ => ?_)⟩
    refine ⟨_, rfl, rfl, _, rfl, iteD (fun _ => ?_) (fun c => absurd (vstr.mpr rfl) c)⟩
    refine ⟨_, rfl, a, _, _, v1, rfl, rfl, SqT.of ha, at1, v1, 5, e1, rfl, by decide, h1, fun H1 s1 => ?_⟩
    refine ⟨_, rfl, iteB (fun c => ?_) (fun c => ?_)⟩
    · refine ⟨_, rfl, a, _, _, V.int k, rfl, rfl, SqT.of (s1 _ _ ha), at2, V.int k, _, rfl, .int k, _, rfl, iteT ?_⟩
      refine ⟨_, rfl, a, _, _, V.int k, rfl, rfl, SqT.of (s1 _ _ ha), at2, _, _, rfl, rfl, _, rfl, iteD (fun c2 => ?_) (fun c2 => ?_)⟩
      · refine ⟨_, rfl, _, _, rfl, rfl, ?_⟩
        have z : (GS.skip e1 k).ok names m = decide (k ≤ m) := by
          show (e1.ok 5 && (decide (1 ≤ k) && decide (k ≤ m))) = _
          rw [show e1.ok 5 = true from c, decide_eq_true c2]; simp
        rw [z] at q
        exact q _ s1
      · have z : (GS.skip e1 k).ok names m = false := by
          show (e1.ok 5 && (decide (1 ≤ k) && decide (k ≤ m))) = _
          rw [decide_eq_false c2]; simp
        rw [z] at q
        exact q _ s1
    · have z : (GS.skip e1 k).ok names m = false := by
        show (e1.ok 5 && (decide (1 ≤ k) && decide (k ≤ m))) = _
        rw [show e1.ok 5 = false from c, Bool.false_and]
      rw [z] at q
      exact q _ s1
  | other _ n e1 =>
    cases es
    obtain ⟨v1, v2, rfl, h1, h2⟩ := dtA2 hx
    cases dt_str h1
    obtain ⟨hp1, hp2⟩ := hp
    refine ⟨_, rfl, rfl, _, rfl, iteD (fun c => ?_) (fun _ => ?_)⟩
    · have c := vstr.mp c
      refine ⟨_, rfl, a, _, rfl, .inr (SqT.of ha), rfl, ?_⟩
      have z : (GS.other l n e1).ok names m = false := by
        subst c
        show ((decide (cs "wait" = wGive) || decide (cs "wait" = wFork) || decide (cs "wait" = wCall)) && isName n && e1.ok 5 && (decide (cs "wait" = wGive) || decide (n ∈ names))) = false
        rw [show (decide (cs "wait" = wGive) || decide (cs "wait" = wFork) || decide (cs "wait" = wCall)) = false by decide]
        rfl
      rw [z] at q
      exact q H (Same.refl _)
    refine ⟨_, rfl, a, _, rfl, .inr (SqT.of ha), rfl, _, rfl, iteF ?_⟩
    refine ⟨_, rfl, rfl, _, rfl, iteD (fun c => absurd (vstr.mp c) hp1) (fun _ => ?_)⟩
    refine ⟨_, rfl, rfl, _, rfl, iteD (fun c => absurd (vstr.mp c) hp2) (fun _ => ?_)⟩
    refine ⟨_, rfl, (by show 3 ≤ sizeLine; decide), fun p hp => ?_⟩
    have s0 : Same H (upd H p (.tup [.str "give", .str "fork", .str "call"])) := same_new hp
    have iv : inV (V.str (S l)) [.str "give", .str "fork", .str "call"] = (decide (l = wGive) || decide (l = wFork) || decide (l = wCall)) := by
      have q := inV_strs l [wGive, wFork, wCall]
      have e1 : ([wGive, wFork, wCall].map fun x => V.str (S x)) = [.str (Str.ofString "give"), .str (Str.ofString "fork"), .str (Str.ofString "call")] := by
        rw [ofS, ofS, ofS]; rfl
      rw [e1] at q
      rw [q]
      simp only [List.mem_cons, List.not_mem_nil, or_false, Bool.decide_or]
      rw [Bool.or_assoc]
    refine ⟨p, _, rfl, .inr (SqT.of upd_same), rfl, rfl, _, rfl, ?_⟩
    show if (!inV (V.str (S l)) [.str "give", .str "fork", .str "call"]) = true then _ else _
    rw [iv]
    refine iteBN (fun c => ?_) (fun c => ?_)
    · have z : (GS.other l n e1).ok names m = false := by
        show ((decide (l = wGive) || decide (l = wFork) || decide (l = wCall)) && isName n && e1.ok 5 && (decide (l = wGive) || decide (n ∈ names))) = false
        rw [c]; rfl
      rw [z] at q
      exact iteT (q _ s0)
    refine ⟨_, rfl, a, _, _, V.str (S n), rfl, rfl, SqT.of (s0 _ _ ha), at1, n, rfl, hl _ _ _ rfl, fun H1 s1 => ?_⟩
    refine ⟨_, rfl, iteBN (fun c1 => ?_) (fun c1 => ?_)⟩
    · have z : (GS.other l n e1).ok names m = false := by
        show ((decide (l = wGive) || decide (l = wFork) || decide (l = wCall)) && isName n && e1.ok 5 && (decide (l = wGive) || decide (n ∈ names))) = false
        rw [c1]; simp
      rw [z] at q
      exact iteT (q _ (s0.trans s1))
    refine ⟨_, rfl, a, _, _, v2, rfl, rfl, SqT.of (s1 _ _ (s0 _ _ ha)), at2, v2, 5, e1, rfl, by decide, (h2.mono s0).mono s1, fun H2 s2 => ?_⟩
    have s02 : Same H H2 := (s0.trans s1).trans s2
    refine ⟨_, rfl, iteBN (fun c2 => ?_) (fun c2 => ?_)⟩
    · have z : (GS.other l n e1).ok names m = false := by
        show ((decide (l = wGive) || decide (l = wFork) || decide (l = wCall)) && isName n && e1.ok 5 && (decide (l = wGive) || decide (n ∈ names))) = false
        rw [show e1.ok 5 = false from c2]; simp
      rw [z] at q
      exact q _ s02
    have z : (GS.other l n e1).ok names m = (decide (l = wGive) || decide (n ∈ names)) := by
      show ((decide (l = wGive) || decide (l = wFork) || decide (l = wCall)) && isName n && e1.ok 5 && (decide (l = wGive) || decide (n ∈ names))) = _
      rw [c, c1, show e1.ok 5 = true from c2]; simp
    rw [z] at q
    refine ⟨_, rfl, rfl, _, rfl, iteD (fun c3 => ?_) (fun c3 => ?_)⟩
    · rw [decide_eq_true (show l = wGive from vstr.mp c3), Bool.true_or] at q
      exact q _ s02
    · rw [decide_eq_false (show ¬ l = wGive from fun z => c3 (vstr.mpr z)), Bool.false_or] at q
      refine ⟨_, rfl, a, _, _, V.str (S n), rfl, rfl, SqT.of (s02 _ _ ha), at1, _, rfl, nb, _, rfl, .inl (SqL.of (s02 _ _ hn)), rfl, ?_, ?_⟩
      · rw [List.all_map, List.all_eq_true]
        intro x _
        rfl
      · show Q (V.bl (inV (V.str (S n)) (names.map fun x => V.str (S x)))) H2
        rw [inV_strs]
        exact q _ s02
end K55
namespace K55
open PySem PySem.Spec PyProof.Rows L2 PreX FG
variable {P : Program} {w : World} {K : PySem.W.Frag} {mg : Str → Option Value} {base : Heap}

/-- texts within bounds, steps as read_step tells them -/
def gOk (s : GS) : Prop := s.plain ∧ ∀ w n e, s = .other w n e → n.length ≤ sizeLine
def pOk (p : List Helper) : Prop := p.length ≤ 100000 ∧ ∀ h ∈ p, h.1.length ≤ sizeLine ∧ h.2.length ≤ 100000 ∧ ∀ s ∈ h.2, gOk s
theorem sz5 {n : Nat} (h : n ≤ 100000) : n < sizeLine := Nat.lt_of_le_of_lt h (by decide)
theorem dtA_map {α : Type} {H : Hp} {f : α → PyData} {xs : List α} {vs : List V} (h : DtA H vs (xs.map f)) {i : Nat} {v : V} (e : vs[i]? = some v) : ∃ x, xs[i]? = some x ∧ Dt H v (f x) := by
  obtain ⟨d, h1, h2⟩ := DtA.get h e
  rw [List.getElem?_map] at h1
  obtain ⟨x, hx, rfl⟩ := Option.map_eq_some_iff.mp h1
  exact ⟨x, hx, h2⟩
theorem dtA_len {α : Type} {H : Hp} {f : α → PyData} {xs : List α} {vs : List V} (h : DtA H vs (xs.map f)) : vs.length = xs.length := by rw [h.length, List.length_map]
theorem rising_zip : ∀ ns : List L, rising ns = ((ns.zip (ns.drop 1)).map fun p => ltL p.1 p.2).all id
  | [] => rfl
  | [_] => rfl
  | a :: b :: r => by
    have := rising_zip (b :: r)
    rw [rising, this]
    rfl
theorem drop_all {α : Type} {f : α → Bool} {xs : List α} {i : Nat} {x : α} (h : xs[i]? = some x) : (xs.drop i).all f = (f x && (xs.drop (i + 1)).all f) := by
  obtain ⟨hi, e⟩ := List.getElem?_eq_some_iff.mp h
  rw [List.drop_eq_getElem_cons hi, List.all_cons, e]
theorem cutV_tail' (xs : List V) : cutV xs (some 1) none = xs.drop 1 := by
  cases xs with
  | nil => rfl
  | cons x r => rw [cutV_tail]; rfl
def spForm : Sp := fun vs H Q _ => ∃ (v : V) (p : List Helper), vs = [v] ∧ Dt H v (pd p) ∧ pOk p ∧ ∀ H', Same H H' → Q (.bl (form p)) H'
theorem ok_has_form (t : T w K mg) : FnOk P w K mg base CX0 4 t.a_has_form t.d_has_form ["thing"] spForm := by
  refine t.F_has_form.ok sc_has_form (fun vs H Q E h => ?_) (fun cdv A outer s H vs Q E hr h => ?_)
  · obtain ⟨v, p, rfl, _⟩ := h
    rfl
  obtain ⟨v, p, rfl, hd, hp, q⟩ := h
  obtain ⟨a, vs, rfl, ha, hx⟩ := dt_lst hd
  have hlen : vs.length = p.length := dtA_len hx
  refine ⟨_, PSs.nox ((pss_cons (ps_if (pt_not (pt_val (pe_callB (call_isi_k K rfl) (by rfl) t.z_isinstance (by decide +kernel) (pa_cons (pv 0) (pa_cons (pe_bltn (v := .ty "list") (by rfl) t.z_list (by decide +kernel) rfl) pa_nil))))) (pss_one (ps_ret pe_bl))
    pss_nil)
    (pss_cons (ps_for PassesOwn.never rfl (pi_list_k K rfl (pv 0)) (pg_name (i := 1) sc_has_form.nd rfl (by first | exact Or.inl rfl | exact Or.inr rfl))
    (pss_one (ps_if (PW.pt (pw_or (pt_not (pt_val (pe_callB (call_isi_k K rfl) (by rfl) t.z_isinstance (by decide +kernel) (pa_cons (pv 1) (pa_cons (pe_bltn (v := .ty "tuple") (by rfl) t.z_tuple (by decide +kernel) rfl) pa_nil))))) (pw_or (pt_cmpR op_ne (pe_callB (call_len_seq_k K rfl) (by rfl) t.z_len (by decide +kernel) (pa_cons (pv 1) pa_nil)) pe_int (by first | exact nomark _ | rfl)) (pw_or (pt_not (pt_val (pe_call (ok_is_name t) (hr.mono (by decide)) rfl t.g_is_name t.F_is_name.kp (b_is_name t) .nil pass0 (pa_cons (pe_ix (ix_tup_k K rfl) (pv 1) pe_int (fun _ _ => rfl)) pa_nil)))) (pw_or1 (pt_not (pt_val (pe_callB (call_isi_k K rfl) (by rfl) t.z_isinstance (by decide +kernel) (pa_cons (pe_ix (ix_tup_k K rfl) (pv 1) pe_int (fun _ _ => rfl)) (pa_cons (pe_bltn (v := .ty "list") (by rfl) t.z_list (by decide +kernel) rfl) pa_nil)))))))))) (pss_one (ps_ret pe_bl))
    pss_nil)))
    (pss_cons (ps_setLc (i := 2) (own := [("name", 3), ("steps", 4)]) (g := gTup K 2 (gCons (gName 3) (gCons (gName 4) gNil))) (tt := tYes) rfl sc_has_form.nd rfl rfl (sw_true rfl rfl rfl (by decide +kernel)) (pi_list_k K rfl (pv 0)) (blkOk_by (own := [("name", 3), ("steps", 4)]) (N := N_has_form) (sc := defScope s_has_form) (by decide +kernel)) (fun _ _ _ _ _ => (pg_tup rfl (pgs_cons (pg_name (i := 3) sc_has_form.nd rfl (by first | exact Or.inl rfl | exact Or.inr rfl)) (pgs_cons (pg_name (i := 4) sc_has_form.nd rfl (by first | exact Or.inl rfl | exact Or.inr rfl)) pgs_nil)))) (fun _ _ _ _ _ => pts_nil) (fun _ _ _ _ _ => (pv 3)))
    (pss_one (ps_ret (pe_callB (cr_all_k K rfl rfl) (by rfl) t.z_all (by decide +kernel) (pa_cons (pe_lc (own := [("one", 5), ("other", 6)]) (g := gTup K 2 (gCons (gName 5) (gCons (gName 6) gNil))) (tt := tYes) rfl sc_has_form.nd (pi_zip (by rfl) t.z_zip (pa_cons (pv 2) (pa_cons (pe_slice (sl_list_k K rfl) (pv 2) (po_some pe_int) po_none) pa_nil))) (blkOk_by (own := [("one", 5), ("other", 6)]) (N := N_has_form) (sc := defScope s_has_form) (by decide +kernel)) (fun _ _ _ _ _ => (pg_tup rfl (pgs_cons (pg_name (i := 5) sc_has_form.nd rfl (by first | exact Or.inl rfl | exact Or.inr rfl)) (pgs_cons (pg_name (i := 6) sc_has_form.nd rfl (by first | exact Or.inl rfl | exact Or.inr rfl)) pgs_nil)))) (fun _ _ _ _ _ => pts_nil) (fun _ _ _ _ _ => (pe_cmpR op_lt_str (pv 5) (pv 6) (by first | exact nomark _ | rfl)))) pa_nil)))))))), ?_⟩
  refine ⟨_, rfl, _, _, _, _, _, rfl, .ty _, hd.ty, kit_list _, _, rfl, iteF ?_⟩
  refine ⟨_, rfl, a, rfl, ⟨_, SqL.of ha⟩, ?_⟩
  refine for_it (walk_list (K := K) (a := a) (xs := vs)) (fun i σ H' => Same H H' ∧ (∃ v, σ = [some (.ref a), v, none, none, none, none, none]) ∧ p.all (fun h => isName h.1) = (p.drop i).all (fun h => isName h.1))
    ⟨Same.refl _, ⟨_, rfl⟩, rfl⟩ (fun i σ H' _ ⟨p1, _⟩ => SqL.of (p1 _ _ ha)) (fun i x σ H1 H2 hi ⟨p1, ⟨v, hσ⟩, p3⟩ y => ?_) (fun σ H1 ⟨p1, ⟨v, hσ⟩, p3⟩ => ?_)
  · subst hσ
    obtain ⟨rfl, hxi⟩ := y
    obtain ⟨⟨n, ss⟩, hpi, hdx⟩ := dtA_map (f := FG.hd) hx hxi
    obtain ⟨b, us, rfl, hb, hu⟩ := dt_tup hdx
    obtain ⟨u1, u2, rfl, hu1, hu2⟩ := dtA2 hu
    cases dt_str hu1
    have hmem := List.mem_of_getElem? hpi
    have hb' := p1 _ _ hb
    refine ⟨_, rfl, _, _, _, _, _, rfl, .ty _, (hdx.mono p1).ty, kit_tuple _, _, rfl, iteF ?_⟩
    refine ⟨_, rfl, b, _, rfl, .inr (SqT.of hb'), rfl, _, rfl, iteF ?_⟩
    refine ⟨_, rfl, b, _, _, V.str (S n), rfl, rfl, SqT.of hb', at0, n, rfl, (hp.2 _ hmem).1, fun H3 s3 => ?_⟩
    rw [drop_all hpi] at p3
    refine ⟨_, rfl, iteBN (fun c => ?_) (fun c => ?_)⟩
    · refine iteT ?_
      have z : form p = false := by unfold form; rw [p3, c]; rfl
      rw [z] at q
      exact q _ (p1.trans s3)
    refine ⟨_, rfl, b, _, _, u2, rfl, rfl, SqT.of (s3 _ _ hb'), at1, _, _, _, _, _, rfl, .ty _, ((hu2.mono p1).mono s3).ty, kit_list _, _, rfl, iteF ?_⟩
    refine ⟨p1.trans s3, ⟨_, rfl⟩, ?_⟩
    rw [p3, c, Bool.true_and]
  · subst hσ
    rw [hlen, List.drop_length, List.all_nil] at p3
    refine ⟨_, rfl, a, rfl, ⟨_, SqL.of (p1 _ _ ha)⟩, fun D hD => ?_⟩
    refine lc_it (walk_list (K := K) (a := a) (xs := vs)) (fun i H' => Same H1 (hid D H') ∧ H' D = some (.lst ((p.take i).map fun h => V.str (S h.1))))
        ⟨by rw [hid_upd]; exact same_hid hD (Same.refl _), upd_same⟩ (fun i H' _ ⟨p1', _⟩ => SqL.of (hid_le _ _ (p1' _ _ (p1 _ _ ha)))) (fun i x H2 H3 hi ⟨s2, e2⟩ y => ?_) (fun H2 ⟨s2, e2⟩ => ?_)
    · obtain ⟨rfl, hxi⟩ := y
      obtain ⟨⟨n, ss⟩, hpi, hdx⟩ := dtA_map (f := FG.hd) hx hxi
      obtain ⟨b, us, rfl, hb, hu⟩ := dt_tup hdx
      obtain ⟨u1, u2, rfl, hu1, hu2⟩ := dtA2 hu
      cases dt_str hu1
      have hb' := hid_le _ _ (s2 _ _ (p1 _ _ hb))
      refine ⟨b, _, rfl, SqT.of hb', rfl, _, _, rfl, _, _, rfl, rfl, rfl, _, rfl, ?_⟩
      refine ⟨_, e2, ?_, by rw [hid_upd]; exact s2, ?_⟩
      · rw [List.length_map, List.length_take]
        exact sz5 (Nat.le_trans (Nat.min_le_right _ _) hp.1)
      · rw [upd_same, List.take_add_one, hpi, List.map_append]
        rfl
    · rw [hlen, List.take_length] at e2
      have hDa : a ≠ D := ne_of_none (p1 _ _ ha) hD
      refine ⟨_, rfl, _, rfl, _, rfl, D, _, rfl, SqL.of e2, fun p2 hp2 => ?_⟩
      have hDp2 : D ≠ p2 := ne_of_none e2 hp2
      rw [cutV_tail']
      have eN : (p.map fun h => V.str (S h.1)) = (p.map (·.1)).map fun x => V.str (S x) := by rw [List.map_map]; rfl
      rw [eN] at e2
      rw [eN, ← List.map_drop]
      generalize hN : p.map (·.1) = ns at *
      refine ⟨D, p2, _, _, rfl, SqL.of (by rw [upd_ne hDp2]; exact e2), SqL.of upd_same, fun D2 hD2 => ?_⟩
      have n1 : D ≠ D2 := ne_of_none (by rw [upd_ne hDp2]; exact e2) hD2
      have n2 : p2 ≠ D2 := ne_of_none upd_same hD2
      refine lc_it (walk_zip (K := K) (a := D) (b := p2) (xs := ns.map fun x => V.str (S x)) (ys := (ns.drop 1).map fun x => V.str (S x)) (n := (ns.zip (ns.drop 1)).length) (by rw [List.length_zip, List.length_map, List.length_map])) (fun i H' => Same (upd H2 p2 (.lst ((ns.drop 1).map fun x => V.str (S x)))) (hid D2 H') ∧ H' D2 = some (.lst (((ns.zip (ns.drop 1)).take i).map fun p => V.bl (ltL p.1 p.2))))
        ⟨by rw [hid_upd]; exact same_hid hD2 (Same.refl _), upd_same⟩ (fun i H' _ ⟨s3, _⟩ => ⟨SqL.of (hid_le _ _ (s3 _ _ (by rw [upd_ne hDp2]; exact e2))), SqL.of (hid_le _ _ (s3 _ _ upd_same))⟩) (fun i x H3 H4 hi ⟨s3, e3⟩ y => ?_) (fun H3 ⟨s3, e3⟩ => ?_)
      · obtain ⟨T1, x1, x2, rfl, hT, rfl, hx1, hx2⟩ := y
        have hx1 : (ns.map fun x => V.str (S x))[i]? = some x1 := hx1
        have hx2 : ((ns.drop 1).map fun x => V.str (S x))[i]? = some x2 := hx2
        rw [List.getElem?_map] at hx1 hx2
        obtain ⟨m1, hm1, rfl⟩ := Option.map_eq_some_iff.mp hx1
        obtain ⟨m2, hm2, rfl⟩ := Option.map_eq_some_iff.mp hx2
        have nT : D2 ≠ T1 := ne_of_none e3 hT
        refine ⟨T1, _, rfl, SqT.of upd_same, rfl, _, _, rfl, _, _, rfl, rfl, rfl, _, rfl, _, rfl, _, _, rfl, rfl, ?_⟩
        refine ⟨_, by rw [upd_ne nT]; exact e3, ?_, ?_, ?_⟩
        · rw [List.length_map, List.length_take, List.length_zip]
          have : ns.length ≤ 100000 := by rw [← hN, List.length_map]; exact hp.1
          exact sz5 (by omega)
        · rw [hid_upd, hid_upd_ne nT.symm]
          exact s3.trans (same_new (by rw [hid_ne nT.symm]; exact hT))
        · rw [upd_same, List.take_add_one, List.getElem?_zip_eq_some (z := (m1, m2)) |>.mpr ⟨hm1, hm2⟩, List.map_append]
          simp only [Option.toList_some, List.map_cons, List.map_nil]
          rw [S_cps, S_cps]
          rfl
      · rw [List.take_length] at e3
        refine ⟨D2, (ns.zip (ns.drop 1)).map fun p => ltL p.1 p.2, rfl, SqL.of (by rw [List.map_map]; exact e3), ?_⟩
        have z : form p = ((ns.zip (ns.drop 1)).map fun p => ltL p.1 p.2).all id := by
          unfold form
          rw [p3, Bool.true_and, hN, rising_zip]
        rw [← z]
        refine q _ (fun b o hb => ?_)
        exact hid_le _ _ (s3 _ _ (same_new hp2 _ _ (hid_le _ _ (s2 _ _ (p1 _ _ hb)))))
end K55
namespace K55
open PySem PySem.Spec PyProof.Rows L2 PreX FG
variable {P : Program} {w : World} {K : PySem.W.Frag} {mg : Str → Option Value} {base : Heap}

theorem stepsOk_drop {names : List L} : ∀ {ss : List GS} {i : Nat} {s : GS}, ss[i]? = some s → stepsOk names (ss.drop i) = (s.ok names ((ss.length : Int) - (i : Int) - 1) && stepsOk names (ss.drop (i + 1)))
  | ss, i, s, h => by
    obtain ⟨hi, e⟩ := List.getElem?_eq_some_iff.mp h
    rw [List.drop_eq_getElem_cons hi, stepsOk, e, List.length_drop]
    have : ((ss.length - (i + 1) : Nat) : Int) = (ss.length : Int) - (i : Int) - 1 := by omega
    rw [this]
def spWrong : Sp := fun vs H Q _ => ∃ (v : V) (p : List Helper), vs = [v] ∧ Dt H v (pd p) ∧ pOk p ∧ ∀ u H', Same H H' → decide (u = .non) = isProg p → Q u H'
theorem ok_first_wrong (t : T w K mg) : FnOk P w K mg base CX0 9 t.a_first_wrong t.d_first_wrong ["program"] spWrong := by
  refine t.F_first_wrong.ok sc_first_wrong (fun vs H Q E h => ?_) (fun cdv A outer s H vs Q E hr h => ?_)
  · obtain ⟨v, p, rfl, _⟩ := h
    rfl
  obtain ⟨v, p, rfl, hd, hp, q⟩ := h
  obtain ⟨a, vs, rfl, ha, hx⟩ := dt_lst hd
  have hlen : vs.length = p.length := dtA_len hx
  refine ⟨_, PSs.nox ((pss_cons (ps_if (pt_not (pt_val (pe_call (ok_has_form t) (hr.mono (by decide)) rfl t.g_has_form t.F_has_form.kp (b_has_form t) .nil pass0 (pa_cons (pv 0) pa_nil)))) (pss_one (ps_ret (pe_tup (pa_cons pe_non (pa_cons pe_non pa_nil)))))
    pss_nil)
    (pss_cons (ps_setLc (i := 1) (own := [("name", 2), ("steps", 3)]) (g := gTup K 2 (gCons (gName 2) (gCons (gName 3) gNil))) (tt := tYes) rfl sc_first_wrong.nd rfl rfl (sw_true rfl rfl rfl (by decide +kernel)) (pi_list_k K rfl (pv 0)) (blkOk_by (own := [("name", 2), ("steps", 3)]) (N := N_first_wrong) (sc := defScope s_first_wrong) (by decide +kernel)) (fun _ _ _ _ _ => (pg_tup rfl (pgs_cons (pg_name (i := 2) sc_first_wrong.nd rfl (by first | exact Or.inl rfl | exact Or.inr rfl)) (pgs_cons (pg_name (i := 3) sc_first_wrong.nd rfl (by first | exact Or.inl rfl | exact Or.inr rfl)) pgs_nil)))) (fun _ _ _ _ _ => pts_nil) (fun _ _ _ _ _ => (pv 2)))
    (pss_cons (ps_for PassesOwn.never rfl (pi_list_k K rfl (pv 0)) (pg_tup rfl (pgs_cons (pg_name (i := 2) sc_first_wrong.nd rfl (by first | exact Or.inl rfl | exact Or.inr rfl)) (pgs_cons (pg_name (i := 3) sc_first_wrong.nd rfl (by first | exact Or.inl rfl | exact Or.inr rfl)) pgs_nil)))
    (pss_one (ps_for PassesOwn.never rfl (pi_enum (by rfl) t.z_enumerate (pa_cons (pv 3) pa_nil)) (pg_tup rfl (pgs_cons (pg_name (i := 4) sc_first_wrong.nd rfl (by first | exact Or.inl rfl | exact Or.inr rfl)) (pgs_cons (pg_name (i := 5) sc_first_wrong.nd rfl (by first | exact Or.inl rfl | exact Or.inr rfl)) pgs_nil)))
    (pss_one (ps_if (pt_not (pt_val (pe_call (ok_is_step t) (hr.mono (by decide)) rfl t.g_is_step t.F_is_step.kp (b_is_step t) .nil pass0 (pa_cons (pv 5) (pa_cons (pv 1) (pa_cons (pe_op op_sub (pe_op op_sub (pe_callB (call_len_seq_k K rfl) (by rfl) t.z_len (by decide +kernel) (pa_cons (pv 3) pa_nil)) (pv 4)) pe_int) pa_nil)))))) (pss_one (ps_ret (pe_tup (pa_cons (pv 2) (pa_cons (pv 4) pa_nil)))))
    pss_nil)))))
    (pss_one (ps_ret pe_non)))))), ?_⟩
  refine ⟨_, rfl, _, p, rfl, hd, hp, fun H1 s1 => ?_⟩
  refine ⟨_, rfl, iteBN (fun c => ?_) (fun c => ?_)⟩
  · refine ⟨(by show 2 ≤ sizeLine; decide), fun u hu => ?_⟩
    refine q _ _ (s1.trans (same_new hu)) ?_
    have z : isProg p = false := by unfold isProg; rw [c, Bool.false_and]
    rw [z]
    exact decide_eq_false (fun z => nomatch z)
  refine ⟨_, rfl, a, rfl, ⟨_, SqL.of (s1 _ _ ha)⟩, fun D hD => ?_⟩
  refine lc_it (walk_list (K := K) (a := a) (xs := vs)) (fun i H' => Same H (hid D H') ∧ H' D = some (.lst ((p.take i).map fun h => V.str (S h.1))))
      ⟨by rw [hid_upd]; exact same_hid (Same.free s1 hD) s1, upd_same⟩ (fun i H' _ ⟨p1', _⟩ => SqL.of (hid_le _ _ (p1' _ _ ha))) (fun i x H2 H3 hi ⟨s2, e2⟩ y => ?_) (fun H2 ⟨s2, e2⟩ => ?_)
  · obtain ⟨rfl, hxi⟩ := y
    obtain ⟨⟨n, ss⟩, hpi, hdx⟩ := dtA_map (f := FG.hd) hx hxi
    obtain ⟨b, us, rfl, hb, hu⟩ := dt_tup hdx
    obtain ⟨u1, u2, rfl, hu1, hu2⟩ := dtA2 hu
    cases dt_str hu1
    refine ⟨b, _, rfl, SqT.of (hid_le _ _ (s2 _ _ hb)), rfl, _, _, rfl, _, _, rfl, rfl, rfl, _, rfl, ?_⟩
    refine ⟨_, e2, ?_, by rw [hid_upd]; exact s2, ?_⟩
    · rw [List.length_map, List.length_take]
      exact sz5 (Nat.le_trans (Nat.min_le_right _ _) hp.1)
    · rw [upd_same, List.take_add_one, hpi, List.map_append]
      rfl
  rw [hlen, List.take_length] at e2
  have eN : (p.map fun h => V.str (S h.1)) = (p.map (·.1)).map fun x => V.str (S x) := by rw [List.map_map]; rfl
  rw [eN] at e2
  refine ⟨_, rfl, a, rfl, ⟨_, SqL.of (hid_le _ _ (s2 _ _ ha))⟩, ?_⟩
  refine for_it (walk_list (K := K) (a := a) (xs := vs)) (fun i σ H' => Same H2 H' ∧ (∃ v1 v2 v3 v4, σ = [some (.ref a), some (.ref D), v1, v2, v3, v4]) ∧ isProg p = (p.drop i).all (fun h => stepsOk (p.map (·.1)) h.2))
    ⟨Same.refl _, ⟨_, _, _, _, rfl⟩, by unfold isProg; rw [c, Bool.true_and]; rfl⟩ (fun i σ H' _ ⟨p1, _⟩ => SqL.of (p1 _ _ (hid_le _ _ (s2 _ _ ha)))) (fun i x σ H3 H4 hi ⟨s3, ⟨v1, v2, v3, v4, hσ⟩, p3⟩ y => ?_) (fun σ H9 ⟨s3, _, p3⟩ => ?_)
  · subst hσ
    obtain ⟨rfl, hxi⟩ := y
    obtain ⟨⟨n, ss⟩, hpi, hdx⟩ := dtA_map (f := FG.hd) hx hxi
    obtain ⟨b, us, rfl, hb, hu⟩ := dt_tup hdx
    obtain ⟨u1, u2, rfl, hu1, hu2⟩ := dtA2 hu
    cases dt_str hu1
    obtain ⟨c1, ws, rfl, hc1, hw⟩ := dt_lst hu2
    have hmem := List.mem_of_getElem? hpi
    have s23 : Same H H4 := Same.trans s2 (hid_le.trans s3)
    rw [drop_all hpi] at p3
    refine ⟨b, _, rfl, SqT.of (s23 _ _ hb), rfl, _, _, rfl, _, _, rfl, rfl, ?_⟩
    have hwl : ws.length = ss.length := dtA_len hw
    refine ⟨_, rfl, c1, _, rfl, SqL.of (s23 _ _ hc1), ?_⟩
    refine for_it (walk_enum (K := K) (a := c1) (xs := ws)) (fun j σ H' => Same H4 H' ∧ (∃ v3 v4, σ = [some (.ref a), some (.ref D), some (.str (S n)), some (.ref c1), v3, v4]) ∧ stepsOk (p.map (·.1)) ss = stepsOk (p.map (·.1)) (ss.drop j))
      ⟨Same.refl _, ⟨_, _, rfl⟩, rfl⟩ (fun j σ H' _ ⟨p1, _⟩ => SqL.of (p1 _ _ (s23 _ _ hc1))) (fun j x σ H5 H6 hj ⟨s5, ⟨v3, v4, hσ⟩, p5⟩ y => ?_) (fun σ H5 ⟨s5, ⟨v3, v4, hσ⟩, p5⟩ => ?_)
    · subst hσ
      obtain ⟨T1, x1, x2, rfl, hT, rfl, hx1, hx2⟩ := y
      cases hx1
      have hx2 : ws[j]? = some x2 := hx2
      obtain ⟨g, hg, hdg⟩ := dtA_map (f := GS.d) hw hx2
      have s6 : Same H (upd H5 T1 (.tup [.int ((j : Nat) : Int), x2])) := (s23.trans s5).trans (same_new hT)
      refine ⟨T1, _, rfl, SqT.of upd_same, rfl, _, _, rfl, _, _, rfl, rfl, ?_⟩
      have hgo := (hp.2 _ hmem).2.2 _ (List.mem_of_getElem? hg)
      refine ⟨_, rfl, _, rfl, _, rfl, c1, _, rfl, .inl (SqL.of (s6 _ _ hc1)), _, rfl, _, _, rfl, rfl, _, _, rfl, rfl, ?_⟩
      refine ⟨x2, g, D, p.map (·.1), _, rfl, hdg.mono s6, hgo.1, same_new hT _ _ (s5 _ _ (s3 _ _ e2)), hgo.2, fun H7 s7 => ?_⟩
      rw [stepsOk_drop hg] at p5
      rw [hwl]
      refine ⟨_, rfl, iteBN (fun c => ?_) (fun c => ?_)⟩
      · refine ⟨_, rfl, _, rfl, (by show 2 ≤ sizeLine; decide), fun u hu => ?_⟩
        refine q _ _ ((s6.trans s7).trans (same_new hu)) ?_
        have z : isProg p = false := by
          rw [p3, p5, c]; rfl
        rw [z]
        exact decide_eq_false (fun z => nomatch z)
      · rw [c, Bool.true_and] at p5
        exact ⟨(s5.trans (same_new hT)).trans s7, ⟨_, _, rfl⟩, p5⟩
    · subst hσ
      rw [hwl, List.drop_length] at p5
      refine ⟨s3.trans s5, ⟨_, _, _, _, rfl⟩, ?_⟩
      rw [p3, p5]
      rfl
  · rw [hlen, List.drop_length, List.all_nil] at p3
    refine q _ _ (Same.trans s2 (hid_le.trans s3)) ?_
    rw [p3]
    rfl
def spProg : Sp := fun vs H Q _ => ∃ (v : V) (p : List Helper), vs = [v] ∧ Dt H v (pd p) ∧ pOk p ∧ ∀ H', Same H H' → Q (.bl (isProg p)) H'
theorem ok_is_program (t : T w K mg) : FnOk P w K mg base CX0 10 t.a_is_program t.d_is_program ["thing"] spProg := by
  refine t.F_is_program.ok sc_is_program (fun vs H Q E h => ?_) (fun cdv A outer s H vs Q E hr h => ?_)
  · obtain ⟨v, p, rfl, _⟩ := h
    rfl
  obtain ⟨v, p, rfl, hd, hp, q⟩ := h
  refine ⟨_, PSs.nox ((pss_one (ps_ret (pe_cmpR op_isN (pe_call (ok_first_wrong t) (hr.mono (by decide)) rfl t.g_first_wrong t.F_first_wrong.kp (b_first_wrong t) .nil pass0 (pa_cons (pv 0) pa_nil)) pe_non (by first | exact nomark _ | rfl))))), ?_⟩
  refine ⟨_, rfl, v, p, rfl, hd, hp, fun u H1 s1 e => ⟨rfl, ?_⟩⟩
  show Q (.bl (decide (u = .non))) H1
  rw [e]
  exact q _ s1
end K55
namespace K55
open PySem PySem.Spec PyProof.Rows L2 PreX FG
variable {P : Program} {w : World} {K : PySem.W.Frag} {mg : Str → Option Value} {base : Heap}

def spShowE (n : Nat) : Sp := fun vs H Q _ => ∃ (v : V) (e : GE), vs = [v] ∧ Dt H v e.d ∧ e.ok n = true ∧ e.few ∧ (sh e).length ≤ 1000000 ∧ ∀ H', Same H H' → Q (.str (S (sh e))) H'
theorem sz6 {n : Nat} (h : n ≤ 1000000) : n < sizeLine := Nat.lt_of_le_of_lt h (by decide)
theorem sz6' {n : Nat} (h : n ≤ 1000010) : n ≤ sizeLine := Nat.le_trans h (by decide)
theorem ok_show_expression_n (t : T w K mg) {n : Nat} (G : FnOk P w K mg base CX0 (n + 1) t.a_show_expression t.d_show_expression ["expression"] (spShowE n)) :
    FnOk P w K mg base CX0 (n + 2) t.a_show_expression t.d_show_expression ["expression"] (spShowE (n + 1)) := by
  refine t.F_show_expression.ok sc_show_expression (fun vs H Q E h => ?_) (fun cdv A outer s H vs Q E hr h => ?_)
  · obtain ⟨v, e, rfl, _⟩ := h
    rfl
  obtain ⟨v, e, rfl, hd, ho, hf, hl, q⟩ := h
  refine ⟨_, PSs.nox ((pss_cons (ps_if (pt_val (pe_callB (call_isi_k K rfl) (by rfl) t.z_isinstance (by decide +kernel) (pa_cons (pv 0) (pa_cons (pe_bltn (v := .ty "int") (by rfl) t.z_int (by decide +kernel) rfl) pa_nil)))) (pss_one (ps_ret (pe_callTy (XD.call_str_intD K rfl rfl t.dg) (by rfl) t.z_str (by decide +kernel) (pa_cons (pv 0) pa_nil))))
    pss_nil)
    (pss_cons (ps_if (pt_cmpR op_eq (pe_callB (call_len_seq_k K rfl) (by rfl) t.z_len (by decide +kernel) (pa_cons (pv 0) pa_nil)) pe_int (by first | exact nomark _ | rfl)) (pss_one (ps_ret (pe_ix (ix_tup_k K rfl) (pv 0) pe_int (fun _ _ => rfl))))
    pss_nil)
    (pss_one (ps_ret (pe_op op_add_str (pe_op op_add_str (pe_op op_add_str (pe_ix (ix_tup_k K rfl) (pv 0) pe_int (fun _ _ => rfl)) pe_str) (pe_join pe_str (pe_lc (own := [("one", 1)]) (g := gName 1) (tt := tYes) rfl sc_show_expression.nd (pi_tup_k K rfl (pe_slice (sl_tup_k K rfl) (pv 0) (po_some pe_int) po_none)) (blkOk_by (own := [("one", 1)]) (N := N_show_expression) (sc := defScope s_show_expression) (by decide +kernel)) (fun _ _ _ _ _ => (pg_name (i := 1) sc_show_expression.nd rfl (by first | exact Or.inl rfl | exact Or.inr rfl))) (fun _ _ _ _ _ => pts_nil) (fun _ _ _ _ _ => (pe_call G (hr.mono (by omega)) rfl t.g_show_expression t.F_show_expression.kp (b_show_expression t) .nil pass0 (pa_cons (pv 1) pa_nil)))))) pe_str)))))), ?_⟩
  refine ⟨_, rfl, _, _, _, _, _, rfl, .ty _, hd.ty, kit_int _, _, rfl, ?_⟩
  cases e with
  | num i =>
    cases hd
    refine iteT ⟨_, rfl, i, rfl, hf, ?_⟩
    show Q (.str (Str.ofString (toString i))) H
    rw [dig_S]
    exact q H (Same.refl _)
  | node l as =>
    rw [GE.ok, Bool.and_eq_true, decide_eq_true_eq] at ho
    obtain ⟨hp, ho⟩ := ho
    obtain ⟨a, vs0, rfl, ha, hx⟩ := dt_tup hd
    cases hx with
    | @cons v0 vs _ _ h0 hx =>
    cases dt_str h0
    rw [GE.ds_map] at hx
    have hlen : vs.length = as.length := dtA_len hx
    refine iteF ⟨_, rfl, a, _, rfl, .inr (SqT.of ha), rfl, _, rfl, ?_⟩
    have hn := (parts_word hp).2
    cases as with
    | nil =>
      cases vs with
      | cons x r => simp at hlen
      | nil => exact iteT ⟨_, rfl, a, _, _, V.str (S l), rfl, rfl, SqT.of ha, at0, q H (Same.refl _)⟩
    | cons e0 er =>
    have hfw : ∀ e ∈ e0 :: er, e.few := GE.fews_mem hf
    refine iteD (fun c => ?_) (fun c => ?_)
    · have c := V.int.inj c
      rw [List.length_cons, hlen, List.length_cons] at c
      omega
    generalize hes : e0 :: er = es at *
    have eS : sh (GE.node l es) = l ++ [91] ++ joinL [32] (es.map sh) ++ [93] := by
      rw [← hes, sh, shs_map]
    rw [eS] at hl q
    simp only [List.length_append, List.length_singleton] at hl
    refine ⟨_, rfl, a, _, _, V.str (S l), rfl, rfl, SqT.of ha, at0, _, _, rfl, rfl, ?_, ?_⟩
    · rw [S_len, ofS, S_len]
      refine sz6' ?_
      rw [show (cs "[").length = 1 by decide]
      omega
    refine ⟨⟨_, rfl⟩, _, rfl, _, rfl, a, _, rfl, SqT.of ha, ?_, fun p hp => ?_⟩
    · intro ⟨z1, _⟩
      have := HT.sIx_nat (V.str (S l) :: vs).length 0 1
      rw [show ((1 : Nat) : Int) = (1 : Int) from rfl] at this
      rw [this, List.length_cons] at z1
      omega
    rw [cutV_tail]
    refine ⟨p, rfl, ⟨_, SqT.of upd_same⟩, fun D hD => ?_⟩
    have hx' := DtA.mono (same_new (o := .tup vs) hp) hx
    have hel : es.length ≤ 2 := by omega
    refine lc_it (walk_tup (K := K) (xs := vs)) (fun i H' => Same (upd H p (.tup vs)) (hid D H') ∧ H' D = some (.lst ((es.take i).map fun e => V.str (S (sh e)))))
      ⟨by rw [hid_upd]; exact same_hid hD (Same.refl _), upd_same⟩ (fun i H' _ ⟨p1, _⟩ => SqT.of (hid_le _ _ (p1 p _ upd_same))) (fun i x H1 H2 hi ⟨p1, p2⟩ y => ?_) (fun H1 ⟨p1, p2⟩ => ?_)
    · obtain ⟨rfl, hxi⟩ := y
      obtain ⟨e, he, hde⟩ := dtA_map hx' hxi
      have hm := List.mem_of_getElem? he
      have hle : (sh e).length ≤ (joinL [32] (es.map sh)).length := mem_joinL_len _ (List.mem_map.mpr ⟨e, hm, rfl⟩)
      rw [GE.oks_all, List.all_eq_true] at ho
      refine ⟨rfl, _, rfl, x, e, rfl, (hde.mono p1).mono hid_le, ho e hm, hfw e hm, by omega, fun H3 s3 => ?_⟩
      refine ⟨_, s3 _ _ p2, ?_, ?_, ?_⟩
      · rw [List.length_map, List.length_take]
        exact small1000 (by omega)
      · rw [hid_upd]; exact p1.trans (hid_same s3)
      · rw [upd_same, List.take_add_one, he, List.map_append]
        rfl
    · rw [hlen, List.take_length] at p2
      refine ⟨_, D, (es.map sh).map S, rfl, rfl, .inl (SqL.of (by rw [List.map_map, List.map_map]; exact p2)), ?_, ?_⟩
      · rw [List.map_map, List.length_map, List.length_map]
        have e1 : (es.map sh).map (Str.length ∘ S) = (es.map sh).map List.length := List.map_congr_left fun x _ => S_len x
        rw [e1]
        have e2 := joinL_len [32] (es.map sh) (by rw [← hes]; simp)
        rw [List.length_map] at e2
        rw [show (Str.ofString " ").length = 1 by decide]
        rw [List.length_singleton] at e2
        refine Nat.le_trans (m := 1000001) (by omega) (by decide)
      refine ⟨_, _, rfl, rfl, ?_, _, _, rfl, rfl, ?_, ?_⟩
      · rw [ofS, ofS, txtJoin_S, S_app, S_len, S_len, show cs "[" = [91] by decide, show cs " " = [32] by decide]
        simp only [List.length_append, List.length_singleton]
        exact sz6' (by omega)
      · rw [ofS, ofS, ofS, txtJoin_S, S_app, S_app, S_len, S_len, show cs "[" = [91] by decide, show cs " " = [32] by decide, show cs "]" = [93] by decide]
        simp only [List.length_append, List.length_singleton]
        exact sz6' (by omega)
      · have z : S l ++ Str.ofString "[" ++ Txt.join (Str.ofString " ") ((es.map sh).map S) ++ Str.ofString "]" = S (l ++ [91] ++ joinL [32] (es.map sh) ++ [93]) := by
          rw [ofS, ofS, ofS, txtJoin_S, S_app, S_app, S_app, show cs "[" = [91] by decide, show cs " " = [32] by decide, show cs "]" = [93] by decide]
        rw [← z] at q
        exact q _ (fun b o hb => hid_le _ _ (p1 b o (same_new hp _ _ hb)))
theorem ok_show_expression_lv (t : T w K mg) : ∀ n : Nat, FnOk P w K mg base CX0 (n + 1) t.a_show_expression t.d_show_expression ["expression"] (spShowE n)
  | 0 => none_sp fun vs H Q E h => by
    obtain ⟨v, e, _, _, h1, _⟩ := h
    simp [GE.ok] at h1
  | n + 1 => ok_show_expression_n t (ok_show_expression_lv t n)
theorem ok_show_expression (t : T w K mg) : FnOk P w K mg base CX0 6 t.a_show_expression t.d_show_expression ["expression"] (spShowE 5) := ok_show_expression_lv t 5

/-- what is shown of a step: texts and expressions -/
def ptOk : L ⊕ GE → Prop | .inl _ => True | .inr e => e.ok 5 = true ∧ e.few
def spShowS : Sp := fun vs H Q _ => ∃ (v : V) (s : GS), vs = [v] ∧ Dt H v s.d ∧ (∀ x ∈ s.ps, ptOk x) ∧ (shStep s).length ≤ 1000000 ∧ ∀ H', Same H H' → Q (.str (S (shStep s))) H'
theorem ok_show_step (t : T w K mg) : FnOk P w K mg base CX0 7 t.a_show_step t.d_show_step ["step"] spShowS := by
  refine t.F_show_step.ok sc_show_step (fun vs H Q E h => ?_) (fun cdv A outer s H vs Q E hr h => ?_)
  · obtain ⟨v, s, rfl, _⟩ := h
    rfl
  obtain ⟨v, g, rfl, hd, ho, hl, q⟩ := h
  rw [ps_d] at hd
  rw [ps_sh] at hl q
  have hpl : g.ps.length ≤ 3 ∧ g.ps ≠ [] := by cases g <;> simp [GS.ps]
  generalize g.ps = ps at *
  obtain ⟨a, vs, rfl, ha, hx⟩ := dt_tup hd
  have hlen : vs.length = ps.length := dtA_len hx
  refine ⟨_, PSs.nox ((pss_one (ps_ret (pe_join pe_str (pe_lc (own := [("one", 1)]) (g := gName 1) (tt := tYes) rfl sc_show_step.nd (pi_tup_k K rfl (pv 0)) (blkOk_by (own := [("one", 1)]) (N := N_show_step) (sc := defScope s_show_step) (by decide +kernel)) (fun _ _ _ _ _ => (pg_name (i := 1) sc_show_step.nd rfl (by first | exact Or.inl rfl | exact Or.inr rfl))) (fun _ _ _ _ _ => pts_nil) (fun _ _ _ _ _ => (pe_ifExp (pt_val (pe_callB (call_isi_k K rfl) (by rfl) t.z_isinstance (by decide +kernel) (pa_cons (pv 1) (pa_cons (pe_bltn (v := .ty "str") (by rfl) t.z_str (by decide +kernel) rfl) pa_nil)))) (pv 1) (pe_call (ok_show_expression t) (hr.mono (by decide)) rfl t.g_show_expression t.F_show_expression.kp (b_show_expression t) .nil pass0 (pa_cons (pv 1) pa_nil))))))))), ?_⟩
  refine ⟨⟨_, rfl⟩, _, rfl, a, rfl, ⟨_, SqT.of ha⟩, fun D hD => ?_⟩
  refine lc_it (walk_tup (K := K) (xs := vs)) (fun i H' => Same H (hid D H') ∧ H' D = some (.lst ((ps.take i).map fun e => V.str (S (ptS e)))))
      ⟨by rw [hid_upd]; exact same_hid hD (Same.refl _), upd_same⟩ (fun i H' _ ⟨p1, _⟩ => SqT.of (hid_le _ _ (p1 _ _ ha))) (fun i x H1 H2 hi ⟨p1, p2⟩ y => ?_) (fun H1 ⟨p1, p2⟩ => ?_)
  · obtain ⟨rfl, hxi⟩ := y
    obtain ⟨e, he, hde⟩ := dtA_map hx hxi
    have hm := List.mem_of_getElem? he
    have hde := (hde.mono p1).mono hid_le
    refine ⟨rfl, _, rfl, _, _, _, _, _, rfl, .ty _, hde.ty, kit_str _, _, rfl, ?_⟩
    have fin : ∀ H3, Same H2 H3 → ∃ acc, H3 D = some (.lst acc) ∧ acc.length < sizeLine ∧ Same H (hid D (upd H3 D (.lst (acc ++ [V.str (S (ptS e))])))) ∧ (upd H3 D (.lst (acc ++ [V.str (S (ptS e))]))) D = some (.lst ((ps.take (i + 1)).map fun e => V.str (S (ptS e)))) := fun H3 s3 => by
      refine ⟨_, s3 _ _ p2, ?_, ?_, ?_⟩
      · rw [List.length_map, List.length_take]
        exact small1000 (by omega)
      · rw [hid_upd]; exact p1.trans (hid_same s3)
      · rw [upd_same, List.take_add_one, he, List.map_append]
        rfl
    cases e with
    | inl z =>
      cases dt_str hde
      exact iteT ⟨_, rfl, fin _ (Same.refl _)⟩
    | inr e =>
      have hoe := ho _ hm
      have hle : (sh e).length ≤ (joinL [32] (ps.map ptS)).length := mem_joinL_len _ (List.mem_map.mpr ⟨.inr e, hm, rfl⟩)
      have e0 : isT "str" (ptD (.inr e)) = false := by cases e <;> rfl
      rw [e0]
      exact iteF ⟨_, rfl, x, e, rfl, hde, hoe.1, hoe.2, by omega, fun H3 s3 => fin _ s3⟩
  · rw [hlen, List.take_length] at p2
    refine ⟨_, D, (ps.map ptS).map S, rfl, rfl, .inl (SqL.of (by rw [List.map_map, List.map_map]; exact p2)), ?_, ?_⟩
    · rw [List.map_map, List.length_map, List.length_map]
      have e1 : (ps.map ptS).map (Str.length ∘ S) = (ps.map ptS).map List.length := List.map_congr_left fun x _ => S_len x
      rw [e1]
      have e2 := joinL_len [32] (ps.map ptS) (by simpa using hpl.2)
      rw [List.length_map] at e2
      rw [show (Str.ofString " ").length = 1 by decide]
      rw [List.length_singleton] at e2
      refine Nat.le_trans (m := 1000001) (by omega) (by decide)
    · have z : Txt.join (Str.ofString " ") ((ps.map ptS).map S) = S (joinL [32] (ps.map ptS)) := by
        rw [ofS, txtJoin_S, show cs " " = [32] by decide]
      rw [← z] at q
      exact q _ (fun b o hb => hid_le _ _ (p1 b o hb))
end K55
namespace K55
open PySem PySem.Spec PyProof.Rows L2 PreX FG
variable {P : Program} {w : World} {K : PySem.W.Frag} {mg : Str → Option Value} {base : Heap}

/-- numbers of few figures throughout -/
def pFew (p : List Helper) : Prop := ∀ h ∈ p, ∀ s ∈ h.2, GS.few s
theorem shHelper_len {p : List Helper} {h : Helper} (hm : h ∈ p) : (shHelper h).length ≤ (shProg p).length := mem_joinL_len _ (List.mem_map.mpr ⟨h, hm, rfl⟩)
theorem ptOk_of {names : List L} {b : Int} {s : GS} (h : s.ok names b = true) (f : GS.few s) : ∀ x ∈ s.ps, ptOk x := by
  cases s with
  | wait => intro x hx; cases List.mem_singleton.mp hx; trivial
  | cell a c =>
    have h : (a.ok 5 && c.ok 5) = true := h
    rw [Bool.and_eq_true] at h
    intro x hx
    simp only [GS.ps, List.mem_cons, List.not_mem_nil, or_false] at hx
    rcases hx with rfl | rfl | rfl
    · trivial
    · exact ⟨h.1, f.1⟩
    · exact ⟨h.2, f.2⟩
  | skip e m =>
    have h : (e.ok 5 && (decide (1 ≤ m) && decide (m ≤ b))) = true := h
    rw [Bool.and_eq_true] at h
    intro x hx
    simp only [GS.ps, List.mem_cons, List.not_mem_nil, or_false] at hx
    rcases hx with rfl | rfl | rfl
    · trivial
    · exact ⟨h.1, f.1⟩
    · exact ⟨rfl, f.2⟩
  | other w n e =>
    have h : ((decide (w = wGive) || decide (w = wFork) || decide (w = wCall)) && isName n && e.ok 5 && (decide (w = wGive) || decide (n ∈ names))) = true := h
    simp only [Bool.and_eq_true] at h
    intro x hx
    simp only [GS.ps, List.mem_cons, List.not_mem_nil, or_false] at hx
    rcases hx with rfl | rfl | rfl
    · trivial
    · trivial
    · exact ⟨h.1.2, f⟩
theorem eqv_nil {ss : List GS} : PyData.eqv (.list (ss.map GS.d)) (.list []) = decide (ss = []) := by
  cases ss with
  | nil => rfl
  | cons a r => rfl
theorem ixN_last {n : Nat} : ixN (n + 1) (-1) = some n := by
  unfold ixN
  rw [if_neg (by omega), if_pos (by omega)]
  exact congrArg some (by omega)
def spShowP : Sp := fun vs H Q _ => ∃ (v : V) (p : List Helper), vs = [v] ∧ Dt H v (pd p) ∧ isProg p = true ∧ p.length ≤ 100000 ∧ (∀ h ∈ p, h.2.length ≤ 100000) ∧ pFew p ∧ (shProg p).length ≤ 1000000 ∧ ∀ H', Same H H' → Q (.str (S (shProg p))) H'
theorem ok_show_program (t : T w K mg) : FnOk P w K mg base CX0 8 t.a_show_program t.d_show_program ["program"] spShowP := by
  refine t.F_show_program.ok sc_show_program (fun vs H Q E h => ?_) (fun cdv A outer s H vs Q E hr h => ?_)
  · obtain ⟨v, p, rfl, _⟩ := h
    rfl
  obtain ⟨v, p, rfl, hd, hip, hpl, hsl, hf, hl, q⟩ := h
  obtain ⟨a, vs, rfl, ha, hx⟩ := dt_lst hd
  have hlen : vs.length = p.length := dtA_len hx
  refine ⟨_, PSs.nox ((pss_cons (ps_set (i := 1) sc_show_program.nd rfl (by first | exact Or.inl rfl | exact Or.inr rfl) (pe_lst pa_nil))
    (pss_cons (ps_for PassesOwn.never rfl (pi_list_k K rfl (pv 0)) (pg_tup rfl (pgs_cons (pg_name (i := 2) sc_show_program.nd rfl (by first | exact Or.inl rfl | exact Or.inr rfl)) (pgs_cons (pg_name (i := 3) sc_show_program.nd rfl (by first | exact Or.inl rfl | exact Or.inr rfl)) pgs_nil)))
    (pss_cons (ps_expr (pe_bm PySem.F.plainAttrs_list PySem.F.slot_list_append PySem.F.type_list_append mt_append (pv 1) (pa_cons (pe_op op_add_str (pv 2) pe_str) pa_nil)))
    (pss_one (ps_if (pt_cmpR (op_neD_k K rfl hr.units) (pv 3) (pe_lst pa_nil) (by first | exact nomark _ | rfl)) (pss_one (ps_asg (pe_op op_add_str (pe_op op_add_str (pv 2) pe_str) (pe_join pe_str (pe_lc (own := [("step", 4)]) (g := gName 4) (tt := tYes) rfl sc_show_program.nd (pi_list_k K rfl (pv 3)) (blkOk_by (own := [("step", 4)]) (N := N_show_program) (sc := defScope s_show_program) (by decide +kernel)) (fun _ _ _ _ _ => (pg_name (i := 4) sc_show_program.nd rfl (by first | exact Or.inl rfl | exact Or.inr rfl))) (fun _ _ _ _ _ => pts_nil) (fun _ _ _ _ _ => (pe_call (ok_show_step t) (hr.mono (by decide)) rfl t.g_show_step t.F_show_step.kp (b_show_step t) .nil pass0 (pa_cons (pv 4) pa_nil)))))) (pg_sub (pv 1) (pe_un un_neg pe_int) set_list)))
    pss_nil))))
    (pss_one (ps_ret (pe_join pe_str (pv 1))))))), ?_⟩
  refine ⟨Nat.zero_le _, fun r hr0 => ?_⟩
  have har : a ≠ r := ne_of_none ha hr0
  refine ⟨_, rfl, a, rfl, ⟨_, SqL.of (by rw [upd_ne har]; exact ha)⟩, ?_⟩
  refine for_it (walk_list (K := K) (a := a) (xs := vs)) (fun i σ H' => Same H (hid r H') ∧ H' r = some (.lst ((p.take i).map fun h => V.str (S (shHelper h)))) ∧ ∃ v1 v2 v3, σ = [some (.ref a), some (.ref r), v1, v2, v3])
    ⟨by rw [hid_upd]; exact same_hid hr0 (Same.refl _), upd_same, _, _, _, rfl⟩ (fun i σ H' _ ⟨p1, _⟩ => SqL.of (hid_le _ _ (p1 _ _ ha))) (fun i x σ H3 H4 hi ⟨s3, e3, v1, v2, v3, hσ⟩ y => ?_) (fun σ H3 ⟨s3, e3, v1, v2, v3, hσ⟩ => ?_)
  · subst hσ
    obtain ⟨eH, hxi⟩ := y
    cases eH
    obtain ⟨⟨n, ss⟩, hpi, hdx⟩ := dtA_map (f := FG.hd) hx hxi
    have hm := List.mem_of_getElem? hpi
    obtain ⟨b, us, rfl, hb, hu⟩ := dt_tup hdx
    obtain ⟨u1, u2, rfl, hu1, hu2⟩ := dtA2 hu
    cases dt_str hu1
    obtain ⟨c1, ws, rfl, hc1, hw⟩ := dt_lst hu2
    have hwl : ws.length = ss.length := dtA_len hw
    have s3' : Same H H3 := s3.trans hid_le
    obtain ⟨hn, hso⟩ := prog_parts hip _ hm
    have hll := shHelper_len hm
    have hnl : n.length ≤ 8 := by
      unfold isName at hn
      simp only [Bool.and_eq_true, decide_eq_true_eq] at hn
      exact hn.1.2
    have htl : ((p.take i).map fun h => V.str (S (shHelper h))).length ≤ 100000 := by
      rw [List.length_map, List.length_take]; omega
    refine ⟨b, _, rfl, SqT.of (s3' _ _ hb), rfl, _, _, rfl, _, _, rfl, rfl, ?_⟩
    refine ⟨_, rfl, .inl ⟨rfl, _, SqL.of e3⟩, _, rfl, _, _, rfl, rfl, ?_, r, _, _, rfl, rfl, e3, sz5 htl, ?_⟩
    · rw [ofS, S_len, S_len, show (cs ":").length = 1 by decide]
      exact sz6' (show n.length + 1 ≤ 1000010 by omega)
    have hcr : c1 ≠ r := fun z => by
      rw [z] at hc1
      have := s3 _ _ hc1
      rw [hid_at] at this
      cases this
    have hc1' : H3 c1 = some (.lst ws) := s3' _ _ hc1
    have hdw : Dt (hid r H3) (.ref c1) (.list (ss.map GS.d)) := .lst (s3 _ _ hc1) (hw.mono s3)
    have hid_e : hid r (upd H3 r (.lst (((p.take i).map fun h => V.str (S (shHelper h))) ++ [V.str (S n ++ Str.ofString ":")]))) = hid r H3 := hid_upd
    generalize hH5 : upd H3 r (.lst (((p.take i).map fun h => V.str (S (shHelper h))) ++ [V.str (S n ++ Str.ofString ":")])) = H5 at hid_e
    have e5 : H5 r = some (.lst (((p.take i).map fun h => V.str (S (shHelper h))) ++ [V.str (S n ++ Str.ofString ":")])) := by rw [← hH5]; exact upd_same
    have hdw5 : Dt (hid r H5) (.ref c1) (.list (ss.map GS.d)) := by rw [hid_e]; exact hdw
    have s5 : Same H (hid r H5) := by rw [hid_e]; exact s3
    refine ⟨_, rfl, Nat.zero_le _, fun p0 hp0 => ?_⟩
    have s6 : Same H5 (upd H5 p0 (.lst [])) := same_new hp0
    have hp0r : p0 ≠ r := (ne_of_none e5 hp0).symm
    refine ⟨.list (ss.map GS.d), .list [], ((hdw5.mono hid_le).mono s6).dp, .lst (SqL.of upd_same) .nil, (steps_shp hso).shaped (by decide), rfl, _, rfl, ?_⟩
    rw [eqv_nil]
    have s7 : Same H (hid r (upd H5 p0 (.lst []))) := s5.trans (hid_same s6)
    refine iteDN (fun c => ?_) (fun c => ?_)
    · refine ⟨_, rfl, _, _, rfl, rfl, ?_, ?_⟩
      · rw [ofS, S_len, S_len, show (cs ": ").length = 2 by decide]
        exact sz6' (show n.length + 2 ≤ 1000010 by omega)
      refine ⟨⟨_, rfl⟩, _, rfl, c1, rfl, ⟨_, SqL.of (s6 _ _ (hid_le _ _ (s5 _ _ hc1)))⟩, fun D hD => ?_⟩
      have hDr : D ≠ r := (ne_of_none (s6 _ _ e5) hD).symm
      have eSH : shHelper (n, ss) = n ++ [58, 32] ++ joinL [44, 32] (ss.map shStep) := by
        cases ss with
        | nil => exact absurd rfl c
        | cons a r => rfl
      rw [eSH] at hll
      simp only [List.length_append, List.length_cons, List.length_nil] at hll
      refine lc_it (walk_list (K := K) (a := c1) (xs := ws)) (fun j H' => Same (upd H5 p0 (.lst [])) (hid D H') ∧ H' D = some (.lst ((ss.take j).map fun g => V.str (S (shStep g)))))
        ⟨by rw [hid_upd]; exact same_hid hD (Same.refl _), upd_same⟩ (fun j H' _ ⟨p1, _⟩ => SqL.of (hid_le _ _ (p1 _ _ (s6 _ _ (hid_le _ _ (s5 _ _ hc1)))))) (fun j x H7 H8 hj ⟨p1, p2⟩ y => ?_) (fun H7 ⟨p1, p2⟩ => ?_)
      · obtain ⟨eH, hxi⟩ := y
        cases eH
        obtain ⟨g, hg, hdg⟩ := dtA_map hw hxi
        have hmg := List.mem_of_getElem? hg
        have hle : (shStep g).length ≤ (joinL [44, 32] (ss.map shStep)).length := mem_joinL_len _ (List.mem_map.mpr ⟨g, hmg, rfl⟩)
        obtain ⟨bh, hbh⟩ := steps_mem hso g hmg
        refine ⟨rfl, _, rfl, x, g, rfl, ((hdg.mono (s7.trans hid_le)).mono p1).mono hid_le, ptOk_of hbh (hf _ hm g hmg), by omega, fun H9 s9 => ?_⟩
        refine ⟨_, s9 _ _ p2, ?_, ?_, ?_⟩
        · rw [List.length_map, List.length_take]
          have := hsl _ hm
          exact sz5 (Nat.le_trans (Nat.min_le_right _ _) this)
        · rw [hid_upd]; exact p1.trans (hid_same s9)
        · rw [upd_same, List.take_add_one, hg, List.map_append]
          rfl
      · rw [hwl, List.take_length] at p2
        refine ⟨_, D, (ss.map shStep).map S, rfl, rfl, .inl (SqL.of (by rw [List.map_map, List.map_map]; exact p2)), ?_, ?_⟩
        · rw [List.map_map, List.length_map, List.length_map]
          have e1 : (ss.map shStep).map (Str.length ∘ S) = (ss.map shStep).map List.length := List.map_congr_left fun x _ => S_len x
          rw [e1]
          have e2 := joinL_len [44, 32] (ss.map shStep) (by simpa using c)
          rw [List.length_map] at e2
          rw [show (Str.ofString ", ").length = 2 by decide]
          simp only [List.length_cons, List.length_nil] at e2
          refine Nat.le_trans (m := 1000002) (by omega) (by decide)
        refine ⟨_, _, rfl, rfl, ?_, _, rfl, _, rfl, r, _, (-1 : Int), ((p.take i).map fun h => V.str (S (shHelper h))).length, rfl, rfl, hid_le _ _ (p1 _ _ (s6 _ _ e5)), ?_, ?_⟩
        · rw [ofS, ofS, txtJoin_S, S_app, S_len, S_len, show cs ": " = [58, 32] by decide, show cs ", " = [44, 32] by decide]
          simp only [List.length_append, List.length_cons, List.length_nil]
          exact sz6' (by omega)
        · rw [List.length_append, List.length_singleton]
          exact ixN_last
        · refine ⟨?_, ?_, _, _, _, rfl⟩
          · rw [hid_upd]
            refine s7.trans ?_
            exact hid_same (p1.trans hid_le)
          · rw [upd_same, List.take_add_one, hpi, List.map_append]
            simp only [Option.toList_some, List.map_cons, List.map_nil]
            rw [List.set_append_right _ _ (Nat.le_refl _), Nat.sub_self, List.set_cons_zero, eSH, ofS, ofS, txtJoin_S, S_app, S_app, show cs ": " = [58, 32] by decide, show cs ", " = [44, 32] by decide]
    · refine ⟨s7, ?_, _, _, _, rfl⟩
      rw [upd_ne hp0r.symm, e5, List.take_add_one, hpi, List.map_append]
      simp only [Option.toList_some, List.map_cons, List.map_nil]
      rw [c]
      rw [ofS, S_app, show cs ":" = [58] by decide]
      rfl
  · subst hσ
    rw [hlen, List.take_length] at e3
    refine ⟨⟨_, rfl⟩, _, rfl, _, r, (p.map shHelper).map S, rfl, rfl, .inl (SqL.of (by rw [List.map_map, List.map_map]; exact e3)), ?_, ?_⟩
    · rw [List.map_map, List.length_map, List.length_map]
      have e1 : (p.map shHelper).map (Str.length ∘ S) = (p.map shHelper).map List.length := List.map_congr_left fun x _ => S_len x
      rw [e1]
      rw [show (Str.ofString "; ").length = 2 by decide]
      cases p with
      | nil => decide
      | cons h0 hr =>
        have e2 := joinL_len [59, 32] ((h0 :: hr).map shHelper) (by simp)
        rw [List.length_map] at e2
        have e3 : (joinL [59, 32] ((h0 :: hr).map shHelper)).length ≤ 1000000 := hl
        simp only [List.length_cons, List.length_nil] at e2 e3 ⊢
        refine Nat.le_trans (m := 1000002) (by omega) (by decide)
    · have z : Txt.join (Str.ofString "; ") ((p.map shHelper).map S) = S (shProg p) := by
        rw [ofS, txtJoin_S, show cs "; " = [59, 32] by decide]
        rfl
      rw [← z] at q
      exact q _ (s3.trans hid_le)
end K55
namespace K55
open PySem PySem.Spec PyProof.Rows L2 PreX FG
variable {P : Program} {w : World} {K : PySem.W.Frag} {mg : Str → Option Value} {base : Heap}

def spCellAt (K : PySem.W.Frag) : Sp := fun vs H Q _ => ∃ (a : Addr) (ns : List Int) (k : Int), vs = [.ref a, .int k] ∧ SqL K H a (ns.map V.int) ∧ 0 ≤ k ∧ ∀ i : Int, Q (.int i) H
theorem ok_law_cell_at (t : T w K mg) : FnOk P w K mg base CX0 1 t.a_law_cell_at t.d_law_cell_at ["script", "k"] (spCellAt K) := by
  refine t.F_law_cell_at.ok sc_law_cell_at (fun vs H Q E h => ?_) (fun cdv A outer s H vs Q E hr h => ?_)
  · obtain ⟨a, ns, k, rfl, _⟩ := h
    rfl
  obtain ⟨a, ns, k, rfl, ha, h0, q⟩ := h
  refine ⟨_, PSs.nox ((pss_cons (ps_if (pt_cmpR op_lt (pv 1) (pe_callB (call_len_seq_k K rfl) (by rfl) t.z_len (by decide +kernel) (pa_cons (pv 0) pa_nil)) (by first | exact nomark _ | rfl)) (pss_one (ps_ret (pe_ix (ix_list_k K rfl) (pv 0) (pv 1) (fun _ _ => rfl))))
    pss_nil)
    (pss_one (ps_ret pe_int)))), ?_⟩
  refine ⟨_, rfl, _, rfl, a, _, rfl, .inl ha, _, _, rfl, rfl, _, rfl, iteD (fun c => ?_) (fun c => q 0)⟩
  rw [List.length_map] at c
  have hk : k.toNat < ns.length := by omega
  refine ⟨_, rfl, _, rfl, a, _, _, V.int ns[k.toNat], rfl, rfl, ha, atI_int (k := k.toNat) (by omega) (by rw [List.getElem?_map, List.getElem?_eq_getElem hk]; rfl), q _⟩
/-- the bag: three numbers; the last one counts the draws, at most n -/
def Bag (b : Addr) (n : Nat) (H : Hp) : Prop := ∃ x y z : Int, H b = some (.lst [.int x, .int y, .int z]) ∧ 0 ≤ y ∧ y < 2 ^ 140 ∧ 0 ≤ z ∧ z ≤ (n : Int)
theorem Bag.up {b : Addr} {m n : Nat} {H : Hp} (h : Bag b m H) (l : m ≤ n) : Bag b n H := by
  obtain ⟨x, y, z, h1, h2, h3, h4, h5⟩ := h
  exact ⟨x, y, z, h1, h2, h3, h4, by omega⟩
theorem Bag.same {b : Addr} {n : Nat} {H H' : Hp} (h : Bag b n H) (s : Same H H') : Bag b n H' := by
  obtain ⟨x, y, z, h1, h2⟩ := h
  exact ⟨x, y, z, s _ _ h1, h2⟩
theorem Bag.ne {b p : Addr} {n : Nat} {H : Hp} (h : Bag b n H) (hp : H p = none) : p ≠ b := fun e => by
  obtain ⟨x, y, z, h1, _⟩ := h
  rw [e, h1] at hp; cases hp
theorem pow_small {v : Int} (h0 : 0 ≤ v) (h : v < 2 ^ 200) : CPowW v 3 := ⟨by decide, by decide, Nat.lt_of_lt_of_le (natAbs_lt (n := 200) h0 h) (Nat.pow_le_pow_right (by decide) (by decide))⟩
def spBag : Sp := fun vs H Q _ => ∃ c k : Int, vs = [.int c, .int k] ∧ 0 ≤ k ∧ k ≤ 1000 ∧ ∀ b H', H b = none → Same H H' → SameBut b H H' → Bag b 0 H' → Q (.ref b) H'
theorem ok_law_bag (t : T w K mg) : FnOk P w K mg base CX0 1 t.a_law_bag t.d_law_bag ["cell", "place"] spBag := by
  refine t.F_law_bag.ok sc_law_bag (fun vs H Q E h => ?_) (fun cdv A outer s H vs Q E hr h => ?_)
  · obtain ⟨c, k, rfl, _⟩ := h
    rfl
  obtain ⟨c, k, rfl, h0, h1, q⟩ := h
  refine ⟨_, PSs.nox ((pss_one (ps_ret (pe_lst (pa_cons (pe_callB (call_max2 rfl) (by rfl) t.z_max (by decide +kernel) (pa_cons pe_int (pa_cons (pe_op op_sub (pv 0) (pe_op op_powW pe_int pe_int)) pa_nil))) (pa_cons (pe_op op_add (pe_op op_mod (pv 0) pe_int) (pe_op op_mul pe_int (pv 1))) (pa_cons pe_int pa_nil))))))), ?_⟩
  refine ⟨_, rfl, _, _, rfl, rfl, ⟨by decide, by decide, by decide⟩, _, _, rfl, rfl, _, _, rfl, ?_⟩
  refine ⟨_, rfl, _, _, rfl, rfl, (by show (0 : Int) < 170141183460469231731687303715884105727; decide), ?_⟩
  refine ⟨_, rfl, _, _, rfl, rfl, .inl ⟨by decide, by decide⟩, _, _, rfl, rfl, (by show 3 ≤ sizeLine; decide), fun b hb => ?_⟩
  refine q b _ hb (same_new hb) ?_ ⟨_, _, _, upd_same, ?_, ?_, Int.le_refl _, Int.le_refl _⟩
  · exact SameBut.write
  · have := Int.emod_nonneg c (b := 170141183460469231731687303715884105727) (by decide)
    omega
  · have := Int.emod_lt_of_pos c (b := 170141183460469231731687303715884105727) (by decide)
    omega
def spDraw : Sp := fun vs H Q _ => ∃ (b : Addr) (m : Int) (n : Nat), vs = [.ref b, .int m] ∧ 0 < m ∧ m < 2 ^ 100 ∧ Bag b n H ∧ n ≤ 2 ^ 60 ∧ ∀ (r : Int) (H' : Hp), 0 ≤ r → r < m → SameBut b H H' → Bag b (n + 1) H' → Q (.int r) H'
theorem ok_law_draw (t : T w K mg) : FnOk P w K mg base CX0 1 t.a_law_draw t.d_law_draw ["bag", "many"] spDraw := by
  refine t.F_law_draw.ok sc_law_draw (fun vs H Q E h => ?_) (fun cdv A outer s H vs Q E hr h => ?_)
  · obtain ⟨b, m, n, rfl, _⟩ := h
    rfl
  obtain ⟨b, m, n, rfl, hm0, hm1, ⟨x, y, z, hb, hy0, hy1, hz0, hz1⟩, hn, q⟩ := h
  have hm9 : CDivW x m := wide_div hm0 (natAbs_lt (n := 100) (by omega) hm1) (by decide) (by decide)
  refine ⟨_, PSs.nox ((pss_cons (ps_if (pt_cmpR op_gt (pe_ix (ix_list_k K rfl) (pv 0) pe_int (fun _ _ => rfl)) pe_int (by first | exact nomark _ | rfl)) (pss_cons (ps_set (i := 2) sc_law_draw.nd rfl (by first | exact Or.inl rfl | exact Or.inr rfl) (pe_op op_mod (pe_ix (ix_list_k K rfl) (pv 0) pe_int (fun _ _ => rfl)) (pv 1)))
    (pss_cons (ps_asg (pe_op op_fdivW (pe_ix (ix_list_k K rfl) (pv 0) pe_int (fun _ _ => rfl)) (pv 1)) (pg_sub (pv 0) pe_int set_list))
    (pss_one (ps_ret (pv 2)))))
    pss_nil)
    (pss_cons (ps_asg (pe_op op_add (pe_ix (ix_list_k K rfl) (pv 0) pe_int (fun _ _ => rfl)) pe_int) (pg_sub (pv 0) pe_int set_list))
    (pss_cons (ps_set (i := 3) sc_law_draw.nd rfl (by first | exact Or.inl rfl | exact Or.inr rfl) (pe_op op_mod (pe_op op_powW (pe_op op_add (pe_ix (ix_list_k K rfl) (pv 0) pe_int (fun _ _ => rfl)) (pe_op op_mul pe_int (pe_ix (ix_list_k K rfl) (pv 0) pe_int (fun _ _ => rfl)))) pe_int) pe_int))
    (pss_cons (ps_set (i := 3) sc_law_draw.nd rfl (by first | exact Or.inl rfl | exact Or.inr rfl) (pe_op op_mod (pe_op op_powW (pe_op op_add (pv 3) (pe_op op_mul pe_int (pe_ix (ix_list_k K rfl) (pv 0) pe_int (fun _ _ => rfl)))) pe_int) pe_int))
    (pss_one (ps_ret (pe_op op_mod (pe_op op_fdivW (pv 3) pe_int) (pv 1))))))))), ?_⟩
  refine ⟨_, rfl, b, _, _, V.int x, rfl, rfl, SqL.of hb, at0, _, _, rfl, rfl, _, rfl, iteD (fun c => ?_) (fun c => ?_)⟩
  · refine ⟨_, rfl, b, _, _, V.int x, rfl, rfl, SqL.of hb, at0, _, rfl, _, _, rfl, rfl, hm0, ?_⟩
    refine ⟨_, rfl, b, _, _, V.int x, rfl, rfl, SqL.of hb, at0, _, rfl, _, _, rfl, rfl, hm9, _, rfl, b, _, _, 0, rfl, rfl, hb, rfl, ?_⟩
    exact ⟨_, rfl, q _ _ (Int.emod_nonneg _ (by omega)) (Int.emod_lt_of_pos _ hm0) SameBut.write ⟨_, _, _, upd_same, hy0, hy1, hz0, by omega⟩⟩
  · refine ⟨_, rfl, b, _, _, V.int z, rfl, rfl, SqL.of hb, at2, _, _, rfl, rfl, _, rfl, b, _, _, 2, rfl, rfl, hb, rfl, ?_⟩
    generalize hH : upd H b (.lst [.int x, .int y, .int (z + 1)]) = H1
    have e1 : (([V.int x, V.int y, V.int z] : List V).set 2 (V.int (z + 1))) = [V.int x, V.int y, V.int (z + 1)] := rfl
    rw [e1, hH]
    have hb1 : H1 b = some (.lst [.int x, .int y, .int (z + 1)]) := by rw [← hH]; exact upd_same
    have hz2 : z + 1 ≤ 2 ^ 61 := by omega
    refine ⟨_, rfl, b, _, _, V.int y, rfl, rfl, SqL.of hb1, at1, ?_⟩
    refine ⟨_, rfl, b, _, _, V.int (z + 1), rfl, rfl, SqL.of hb1, at2, _, _, rfl, rfl, .inl ⟨by decide, by decide⟩, _, _, rfl, rfl, _, _, rfl, rfl, ?_, _, _, rfl, rfl, (by show (0 : Int) < _; decide), ?_⟩
    · exact pow_small (by omega) (by omega)
    generalize hM : (y + 7368787 * (z + 1)) ^ (3 : Int).toNat % 170141183460469231731687303715884105727 = M
    have hM0 : 0 ≤ M := by rw [← hM]; exact Int.emod_nonneg _ (by decide)
    have hM1 : M < 170141183460469231731687303715884105727 := by rw [← hM]; exact Int.emod_lt_of_pos _ (by decide)
    refine ⟨_, rfl, _, rfl, b, _, _, V.int (z + 1), rfl, rfl, SqL.of hb1, at2, _, _, rfl, rfl, .inl ⟨by decide, by decide⟩, _, _, rfl, rfl, _, _, rfl, rfl, ?_, _, _, rfl, rfl, (by show (0 : Int) < _; decide), ?_⟩
    · exact pow_small (by omega) (by omega)
    refine ⟨_, rfl, _, _, rfl, rfl, ⟨by decide, by decide⟩, _, rfl, _, _, rfl, rfl, hm0, ?_⟩
    exact q _ _ (Int.emod_nonneg _ (by omega)) (Int.emod_lt_of_pos _ hm0) (by rw [← hH]; exact SameBut.write) ⟨_, _, _, hb1, hy0, hy1, by omega, by omega⟩
end K55
namespace K55
open PySem PySem.Spec PyProof.Rows L2 PreX FG
variable {P : Program} {w : World} {K : PySem.W.Frag} {mg : Str → Option Value} {base : Heap}

theorem letter_at {r : Int} (h0 : 0 ≤ r) (h1 : r < 26) : ∃ c, small c = true ∧ atI (Str.ofString "abcdefghijklmnopqrstuvwxyz").cps.toList r = some c := by
  rw [cs_letters]
  obtain ⟨k, rfl⟩ : ∃ k : Nat, r = (k : Int) := ⟨r.toNat, by omega⟩
  have hk : k < 26 := by omega
  refine ⟨97 + k, by unfold small; rw [decide_eq_true (by omega : 97 ≤ 97 + k), decide_eq_true (by omega : 97 + k ≤ 122)]; rfl, atI_nat ?_⟩
  have : ∀ k, k < 26 → ([97, 98, 99, 100, 101, 102, 103, 104, 105, 106, 107, 108, 109, 110, 111, 112, 113, 114, 115, 116, 117, 118, 119, 120, 121, 122] : List Nat)[k]? = some (97 + k) := by decide
  exact this k hk
theorem S_one (c : Nat) : (⟨#[c]⟩ : Str) = S [c] := rfl
theorem cutS_S (l : L) (lo hi : Option Int) : cutS (S l) lo hi = S ((l.drop (HT.sIx l.length 0 lo)).take (HT.sIx l.length l.length hi - HT.sIx l.length 0 lo)) := by
  unfold cutS
  rw [S_cps, S_len]
  rfl
theorem cutS_from (l : L) (k : Nat) : cutS (S l) (some (k : Int)) none = S (l.drop k) := by
  rw [cutS_S, HT.sIx_nat, HT.sIx_none]
  by_cases h : k ≤ l.length
  · rw [Nat.min_eq_left h, List.take_of_length_le (by rw [List.length_drop]; omega)]
  · rw [Nat.min_eq_right (by omega), List.drop_eq_nil_of_le (Nat.le_refl _), List.drop_eq_nil_of_le (by omega), List.take_nil]
theorem cutS_to (l : L) (k : Nat) : cutS (S l) none (some (k : Int)) = S (l.take k) := by
  rw [cutS_S, HT.sIx_nat, HT.sIx_none, List.drop_zero, Nat.sub_zero]
  by_cases h : k ≤ l.length
  · rw [Nat.min_eq_left h]
  · rw [Nat.min_eq_right (by omega), List.take_length, List.take_of_length_le (by omega)]
theorem isName_mk {l : L} (h1 : 1 ≤ l.length) (h2 : l.length ≤ 8) (h3 : ∀ c ∈ l, small c = true) : isName l = true := by
  unfold isName
  rw [decide_eq_true h1, decide_eq_true h2, List.all_eq_true.mpr h3]; rfl
theorem isName_of {l : L} (h : isName l = true) : 1 ≤ l.length ∧ l.length ≤ 8 ∧ ∀ c ∈ l, small c = true := by
  unfold isName at h
  simp only [Bool.and_eq_true, decide_eq_true_eq, List.all_eq_true] at h
  exact ⟨h.1.1, h.1.2, h.2⟩
theorem cutS_ab (l : L) {k j : Nat} (h : k ≤ l.length) : cutS (S l) (some (k : Int)) (some (j : Int)) = S ((l.drop k).take (j - k)) := by
  rw [cutS_S, HT.sIx_nat, HT.sIx_nat, Nat.min_eq_left h]
  by_cases hj : j ≤ l.length
  · rw [Nat.min_eq_left hj]
  · rw [Nat.min_eq_right (by omega), List.take_of_length_le (by rw [List.length_drop]; omega), List.take_of_length_le (by rw [List.length_drop]; omega)]
mutual
theorem ge_hid {D : Addr} {H : Hp} {us : List V} (hD : H D = some (.lst us)) : ∀ (e : GE) {v : V}, Dt H v e.d → Dt (hid D H) v e.d
  | .num _, _, .int i => .int i
  | .node _ as, _, .tup h (.cons (.str _) a) => .tup (by rw [hid_ne fun z => by subst z; rw [hD] at h; cases h]; exact h) (.cons (.str _) (ges_hid hD as a))
theorem ges_hid {D : Addr} {H : Hp} {us : List V} (hD : H D = some (.lst us)) : ∀ (as : List GE) {v : List V}, DtA H v (GE.ds as) → DtA (hid D H) v (GE.ds as)
  | [], _, .nil => .nil
  | e :: r, _, .cons h a => .cons (ge_hid hD e h) (ges_hid hD r a)
end
theorem gs_hid {D : Addr} {H : Hp} {us : List V} (hD : H D = some (.lst us)) : ∀ (s : GS) {v : V}, Dt H v s.d → Dt (hid D H) v s.d := by
  have ne : ∀ {a : Addr} {xs : List V}, H a = some (.tup xs) → hid D H a = some (.tup xs) := fun h => by
    rw [hid_ne fun z => by subst z; rw [hD] at h; cases h]; exact h
  intro s v h
  cases s with
  | wait => cases h with | tup h a => cases a with | cons x a => cases a; cases x; exact .tup (ne h) (.cons (.str _) .nil)
  | cell a b => cases h with | tup h a => cases a with | cons x a => cases x; cases a with | cons y a => cases a with | cons z a => cases a; exact .tup (ne h) (.cons (.str _) (.cons (ge_hid hD _ y) (.cons (ge_hid hD _ z) .nil)))
  | skip e m => cases h with | tup h a => cases a with | cons x a => cases x; cases a with | cons y a => cases a with | cons z a => cases a; cases z; exact .tup (ne h) (.cons (.str _) (.cons (ge_hid hD _ y) (.cons (.int _) .nil)))
  | other w n e => cases h with | tup h a => cases a with | cons x a => cases x; cases a with | cons y a => cases y; cases a with | cons z a => cases a; exact .tup (ne h) (.cons (.str _) (.cons (.str _) (.cons (ge_hid hD _ z) .nil)))
theorem gsA_hid {D : Addr} {H : Hp} {us : List V} (hD : H D = some (.lst us)) : ∀ (ss : List GS) {v : List V}, DtA H v (ss.map GS.d) → DtA (hid D H) v (ss.map GS.d)
  | [], _, .nil => .nil
  | s :: r, _, .cons h a => .cons (gs_hid hD s h) (gsA_hid hD r a)
end K55
namespace K55
open PySem PySem.Spec PyProof.Rows L2 PreX FG
variable {P : Program} {w : World} {K : PySem.W.Frag} {mg : Str → Option Value} {base : Heap}

theorem cs_figures : (Str.ofString "0123456789").cps.toList = [48, 49, 50, 51, 52, 53, 54, 55, 56, 57] := by decide +kernel
theorem in_figures (c : Nat) : decide (c ∈ (Str.ofString "0123456789").cps.toList) = isDig c := by
  rw [cs_figures]
  unfold isDig
  by_cases h : 48 ≤ c ∧ c ≤ 57
  · obtain ⟨h1, h2⟩ := h
    have e : c ∈ [48, 49, 50, 51, 52, 53, 54, 55, 56, 57] := by
      simp only [List.mem_cons, List.not_mem_nil, or_false]; omega
    rw [decide_eq_true e, decide_eq_true h1, decide_eq_true h2]; rfl
  · have e : c ∉ [48, 49, 50, 51, 52, 53, 54, 55, 56, 57] := by
      simp only [List.mem_cons, List.not_mem_nil, or_false]; omega
    rw [decide_eq_false e]
    by_cases h1 : 48 ≤ c
    · have h2 : ¬ c ≤ 57 := fun q => h ⟨h1, q⟩
      rw [decide_eq_false h2, Bool.and_false]
    · rw [decide_eq_false h1, Bool.false_and]
theorem readNum_int {t : L} {i : Int} (h : readNum t = some i) (hl : t.length ≤ 4000) : PySem.intText? (S t) = some i := by
  unfold readNum at h
  split at h
  · cases h
  split at h
  · cases h
  rename_i h1 h2
  have hd : PySem.NumText.AllDigits (figs t) := fun c hc => by
    have := h2
    rw [Bool.not_eq_false, List.all_eq_true] at this
    exact dig_of (this c hc)
  split at h
  · cases h
  have e := Option.some.inj h
  by_cases c : t.take 1 = [45]
  · rw [if_pos c] at e
    have ef : figs t = t.drop 1 := by unfold figs; rw [if_pos c]
    have et : t = 45 :: figs t := by
      cases t with
      | nil => cases c
      | cons a r =>
        have : a = 45 := by simpa using c
        subst this
        rw [ef]; rfl
    rw [← e]
    exact PySem.intText_neg (by rw [S_cps]; exact et) hd h1 (by rw [S_len]; exact Nat.le_trans hl (by decide))
  · rw [if_neg c] at e
    have ef : figs t = t := by unfold figs; rw [if_neg c]
    rw [ef] at e hd h1
    rw [← e]
    have := PySem.intText_digits (x := S t) (by rw [S_cps]; exact hd) (by rw [S_cps]; exact h1) (by rw [S_len]; exact Nat.le_trans hl (by decide))
    rwa [S_cps] at this
theorem figs_len (l : L) : (figs l).length ≤ l.length := by
  unfold figs
  split
  · rw [List.length_drop]; omega
  · exact Nat.le_refl _
def spNum (C : Addr) : Sp := fun vs H Q E => ∃ (t : L), vs = [.str (S t)] ∧ t.length ≤ 1000000 ∧ runs 3999 t ∧ (∀ i, readNum t = some i → ∀ H', Same H H' → Q (.int i) H') ∧ (readNum t = none → ∀ H', Same H H' → E (.ref C) none H')
theorem num_short {t : L} {i : Int} (h : readNum t = some i) (r : runs 3999 t) : t.length ≤ 4000 := by
  unfold readNum at h
  split at h
  · cases h
  split at h
  · cases h
  rename_i h1 h2
  have h2' : (figs t).all isDig = true := by simpa using h2
  have h3 : (figs t).length ≤ 3999 := by
    refine runs.all (r.infix ?_) fun c hc => List.all_eq_true.mp h2' c hc
    unfold figs
    split
    · exact (List.drop_suffix _ _).isInfix
    · exact List.infix_refl _
  unfold figs at h3
  split at h3
  · rw [List.length_drop] at h3; omega
  · omega
theorem ok_read_number (t : T w K mg) : FnOk P w K mg base (L2.CX P w) 1 t.a_read_number t.d_read_number ["text"] (spNum t.C_NoText) := by
  refine t.F_read_number.ok sc_read_number (fun vs H Q E h => ?_) (fun cdv A outer s H vs Q E hr h => ?_)
  · obtain ⟨l, rfl, _⟩ := h
    rfl
  obtain ⟨l, rfl, hl, hrn, q, e⟩ := h
  have hz : (S l).length ≤ sizeLine := by rw [S_len]; exact Nat.le_trans hl (by decide)
  have hfl : (figs l).length ≤ 1000000 := Nat.le_trans (figs_len l) hl
  have hzf : (S (figs l)).length ≤ sizeLine := by rw [S_len]; exact Nat.le_trans hfl (by decide)
  refine ⟨_, (pss_cons (ps_set (i := 1) sc_read_number.nd rfl (by first | exact Or.inl rfl | exact Or.inr rfl) (pv 0))
    (pss_cons (ps_if (pt_cmpR op_eq (pe_slice sl_str (pv 0) po_none (po_some pe_int)) pe_str (by first | exact nomark _ | rfl)) (pss_one (ps_set (i := 1) sc_read_number.nd rfl (by first | exact Or.inl rfl | exact Or.inr rfl) (pe_slice sl_str (pv 0) (po_some pe_int) po_none)))
    pss_nil)
    (pss_cons (ps_if (PW.pt (pw_or (pt_cmpR op_eq (pv 1) pe_str (by first | exact nomark _ | rfl)) (pw_or1 (pt_not (pt_val (pe_callB (cr_all_k K rfl rfl) (by rfl) t.z_all (by decide +kernel) (pa_cons (pe_lc (own := [("sign", 2)]) (g := gName 2) (tt := tYes) rfl sc_read_number.nd (pi_str (pv 1)) (blkOk_by (own := [("sign", 2)]) (N := N_read_number) (sc := defScope s_read_number) (by decide +kernel)) (fun _ _ _ _ _ => (pg_name (i := 2) sc_read_number.nd rfl (by first | exact Or.inl rfl | exact Or.inr rfl))) (fun _ _ _ _ _ => pts_nil) (fun _ _ _ _ _ => (pe_cmpR op_in_sign (pv 2) (pe_glob (v := V.str ("0123456789" : Str)) rfl t.k_FIGURES.choose_spec ⟨_, rfl⟩) (by first | exact nomark _ | rfl)))) pa_nil))))))) (pss_one (ps_raise rfl (takes_of rfl rfl rfl rfl) (pmk_own PySem.F.excBase_ValueError t.x_NoText.1 t.g_NoText t.x_NoText.2.1 (raises_own t.x_NoText.2.2.1 t.x_NoText.2.2.2) rfl)))
    pss_nil)
    (pss_cons (ps_if (PW.pt (pw_and (pt_cmpR op_eq (pe_ix ix_str (pv 1) pe_int (fun _ _ => rfl)) pe_str (by first | exact nomark _ | rfl)) (pw_and1 (pt_cmpR op_ne (pv 0) pe_str (by first | exact nomark _ | rfl))))) (pss_one (ps_raise rfl (takes_of rfl rfl rfl rfl) (pmk_own PySem.F.excBase_ValueError t.x_NoText.1 t.g_NoText t.x_NoText.2.1 (raises_own t.x_NoText.2.2.1 t.x_NoText.2.2.2) rfl)))
    pss_nil)
    (pss_one (ps_ret (pe_callTy (XD.call_int_strD K rfl t.dg) (by rfl) t.z_int (by decide +kernel) (pa_cons (pv 0) pa_nil)))))))), ?_⟩
  refine ⟨_, rfl, ?_⟩
  obtain ⟨f, hf⟩ : ∃ f : Str, f = S (figs l) := ⟨_, rfl⟩
  refine ⟨_, rfl, _, rfl, _, rfl, hz, rfl, _, rfl, iteD (fun c => ⟨_, rfl, _, rfl, _, rfl, hz, ?G1⟩) (fun c => ?G2)⟩
  case' G1 =>
    have e1 : cutS (S l) (some 1) none = f := by
      have c1 : cutS (S l) none (some ((1 : Nat) : Int)) = S (cs "-") := by
        rw [← ofS]; exact V.str.inj c
      rw [cutS_to] at c1
      have c2 : l.take 1 = [45] := S_inj c1
      have := cutS_from l 1
      rw [show (((1 : Nat)) : Int) = 1 from rfl] at this
      rw [this, hf]
      unfold figs
      rw [if_pos c2]
    rw [e1]
    have hx : f = S (figs l) := hf
  case' G2 =>
    have hx : S l = S (figs l) := by
      unfold figs
      rw [if_neg]
      intro c2
      refine c ?_
      have := cutS_to l 1
      rw [show (((1 : Nat)) : Int) = 1 from rfl] at this
      rw [this, c2, ofS]; rfl
  all_goals
    refine ⟨_, rfl, rfl, _, rfl, iteD (fun c1 => ?_) (fun c1 => ?_)⟩
    · have c1' : figs l = [] := by
        have := V.str.inj c1
        rw [hx, ofS] at this
        exact S_inj this
      exact e (by unfold readNum; rw [if_pos c1']) H (Same.refl _)
    have h1 : ¬ figs l = [] := fun z => c1 (by rw [hx, z, ofS]; rfl)
    obtain ⟨c0, r0, h10⟩ : ∃ c r, figs l = c :: r := by
      cases h : figs l with
      | nil => exact absurd h h1
      | cons c r => exact ⟨c, r, rfl⟩
    refine ⟨_, rfl, _, rfl, fun D hD => ?_⟩
    refine lc_it walk_str (fun j H' => Same H (hid D H') ∧ H' D = some (.lst (((figs l).take j).map fun c => V.bl (isDig c)))) ⟨by rw [hid_upd]; exact same_hid hD (Same.refl _), upd_same⟩ (fun _ _ _ _ => trivial) (fun j x H1 H2 hj ⟨p1, p2⟩ y => ?_) (fun H1 ⟨p1, p2⟩ => ?_)
    · obtain ⟨eH, c0, hc, rfl⟩ := y
      cases eH
      have hc : (figs l)[j]? = some c0 := by
        rw [hx] at hc
        simpa [S] using hc
      refine ⟨rfl, _, rfl, c0, _, rfl, rfl, ?_⟩
      have hlt : ((figs l).take j).length ≤ 1000000 := by rw [List.length_take]; omega
      refine ⟨_, p2, by rw [List.length_map]; exact Nat.lt_of_le_of_lt hlt (by decide), ?_, ?_⟩
      · rw [hid_upd]; exact p1
      · rw [upd_same, List.take_add_one, hc, List.map_append]
        simp only [Option.toList_some, List.map_cons, List.map_nil]
        rw [in_figures]
    · have es : ∀ z : Str, z = S (figs l) → z.cps.size = (figs l).length := fun z e => by rw [e]; exact S_len _
      rw [es _ hx, List.take_length] at p2
      have s1 : Same H H1 := fun b o hb => hid_le _ _ (p1 b o hb)
      refine ⟨D, (figs l).map isDig, rfl, SqL.of (by rw [List.map_map]; exact p2), _, rfl, ?_⟩
      rw [List.all_map]
      refine iteBN (fun h2 => ?_) (fun h2 => ?_)
      · have h2' : (figs l).all isDig = false := h2
        exact e (by unfold readNum; rw [if_neg h1, if_pos h2']) H1 s1
      have h2' : (figs l).all isDig = true := h2
      have n2 : readNum l = if (figs l).take 1 = [48] ∧ l ≠ [48] then none else some (if l.take 1 = [45] then -((PySem.NumText.digitsVal (figs l) : Nat) : Int) else ((PySem.NumText.digitsVal (figs l) : Nat) : Int)) := by
        unfold readNum; rw [if_neg h1, if_neg (by rw [h2']; simp)]
      have hret : ¬ ((figs l).take 1 = [48] ∧ l ≠ [48]) → ∃ a i, [V.str (S l)] = [V.str a] ∧ PySem.intText? a = some i ∧ a.length ≤ 4000 ∧ Q (.int i) H1 := fun h3 => by
        rw [if_neg h3] at n2
        exact ⟨_, _, rfl, readNum_int n2 (num_short n2 hrn), by rw [S_len]; exact num_short n2 hrn, q _ n2 H1 s1⟩
      refine ⟨_, rfl, _, _, c0, rfl, rfl, by rw [hx]; exact hzf, by rw [hx, S_cps, h10]; exact at0, rfl, _, rfl, iteD (fun c4 => ⟨_, rfl, rfl, _, rfl, iteDN (fun c5 => ?_) (fun c5 => ?_)⟩) (fun c4 => ?_)⟩
      · have e4 : c0 = 48 := by
          have := V.str.inj c4
          rw [S_one, ofS] at this
          have := S_inj this
          simpa [cs] using this
        refine e ?_ H1 s1
        rw [n2, if_pos ⟨by rw [h10, e4]; rfl, fun z => c5 (by rw [z, ofS]; rfl)⟩]
      · exact ⟨_, rfl, hret fun z => z.2 (S_inj (by have := V.str.inj c5; rw [ofS] at this; exact this))⟩
      · exact ⟨_, rfl, hret fun z => c4 (by
          have h6 := z.1
          rw [h10] at h6
          have : c0 = 48 := by simpa using h6
          rw [this, S_one, ofS]; rfl)⟩
def spParted (C : Addr) : Sp := fun vs H Q E => ∃ (t : L), vs = [.str (S t)] ∧ t.length ≤ 1000000 ∧ (∀ ws, parted t = some ws → ∀ (p : Addr) (H' : Hp), H p = none → H' p = some (.lst (ws.map fun x => V.str (S x))) → Same H H' → Q (.ref p) H') ∧ (parted t = none → ∀ H', Same H H' → E (.ref C) none H')
theorem ok_parted (t : T w K mg) : FnOk P w K mg base (L2.CX P w) 1 t.a_parted t.d_parted ["text"] (spParted t.C_NoText) := by
  refine t.F_parted.ok sc_parted (fun vs H Q E h => ?_) (fun cdv A outer s H vs Q E hr h => ?_)
  · obtain ⟨l, rfl, _⟩ := h
    rfl
  obtain ⟨l, rfl, hl, q, e⟩ := h
  have hz : (S l).length ≤ sizeLine := by rw [S_len]; exact Nat.le_trans hl (by decide)
  have hsz : l.length + 1 ≤ sizeLine := Nat.le_trans (Nat.succ_le_succ hl) (by decide)
  refine ⟨_, (pss_cons (ps_set (i := 1) sc_parted.nd rfl (by first | exact Or.inl rfl | exact Or.inr rfl) (pe_lst (pa_cons pe_str pa_nil)))
    (pss_cons (ps_set (i := 2) sc_parted.nd rfl (by first | exact Or.inl rfl | exact Or.inr rfl) pe_int)
    (pss_cons (ps_for (passes_of rfl) rfl (pi_str (pv 0)) (pg_name (i := 3) sc_parted.nd rfl (by first | exact Or.inl rfl | exact Or.inr rfl))
    (pss_cons (ps_if (pt_cmpR op_eq (pv 3) pe_str (by first | exact nomark _ | rfl)) (pss_one (ps_aug (i := 2) sc_parted.nd rfl (by first | exact Or.inl rfl | exact Or.inr rfl) pe_int ip_add))
    (pss_one (ps_if (pt_cmpR op_eq (pv 3) pe_str (by first | exact nomark _ | rfl)) (pss_one (ps_aug (i := 2) sc_parted.nd rfl (by first | exact Or.inl rfl | exact Or.inr rfl) pe_int ip_sub))
    pss_nil)))
    (pss_cons (ps_if (pt_cmpR op_lt (pv 2) pe_int (by first | exact nomark _ | rfl)) (pss_one (ps_raise rfl (takes_of rfl rfl rfl rfl) (pmk_own PySem.F.excBase_ValueError t.x_NoText.1 t.g_NoText t.x_NoText.2.1 (raises_own t.x_NoText.2.2.1 t.x_NoText.2.2.2) rfl)))
    pss_nil)
    (pss_one (ps_if (PW.pt (pw_and (pt_cmpR op_eq (pv 3) pe_str (by first | exact nomark _ | rfl)) (pw_and1 (pt_cmpR op_eq (pv 2) pe_int (by first | exact nomark _ | rfl))))) (pss_one (ps_expr (pe_bm PySem.F.plainAttrs_list PySem.F.slot_list_append PySem.F.type_list_append mt_append (pv 1) (pa_cons pe_str pa_nil))))
    (pss_one (ps_asg (pe_op op_add_str (pe_ix (ix_list_k K rfl) (pv 1) (pe_un un_neg pe_int) (fun _ _ => rfl)) (pv 3)) (pg_sub (pv 1) (pe_un un_neg pe_int) set_list))))))))
    (pss_one (ps_ret (pv 1)))))), ?_⟩
  refine ⟨(by show 1 ≤ sizeLine; decide), fun p hp => ?_⟩
  refine ⟨_, rfl, _, rfl, ?_⟩
  refine for_it walk_str (fun i σ H' => Same H (hid p H') ∧ ∃ (done : List L) (cur : L) (lv : Int) (v3 : Option V), σ = [some (.str (S l)), some (.ref p), some (.int lv), v3] ∧ H' p = some (.lst ((done ++ [cur]).map fun x => V.str (S x))) ∧
      parted l = (partGo lv cur (l.drop i)).map (done ++ ·) ∧ done.length ≤ i ∧ cur.length ≤ i)
    ⟨by rw [hid_upd]; exact same_hid hp (Same.refl _), [], [], 0, none, rfl, by rw [upd_same, ofS]; rfl, by show partGo 0 [] l = (partGo 0 [] l).map _; cases partGo 0 [] l <;> rfl, Nat.le_refl _, Nat.le_refl _⟩ (fun _ _ _ _ _ => trivial) (fun i x σ H1 H2 hi ⟨s1, done, cur, lv, v3, hσ, e1, hgo, hd, hc⟩ y => ?_) (fun σ H1 ⟨s1, done, cur, lv, v3, hσ, e1, hgo, hd, hc⟩ => ?_)
  · subst hσ
    obtain ⟨eH, c, hci, rfl⟩ := y
    cases eH
    have hci : l[i]? = some c := by simpa [S] using hci
    have hil : i < l.length := (List.getElem?_eq_some_iff.mp hci).1
    have edr : l.drop i = c :: l.drop (i + 1) := by
      rw [List.drop_eq_getElem_cons hil]
      congr 1
      have := List.getElem?_eq_getElem hil
      rw [hci] at this
      exact (Option.some.inj this).symm
    rw [edr, partGo] at hgo
    have sign : ∀ z : Str, ∀ k : Nat, z = S [k] → ((V.str ⟨#[c]⟩ = V.str z) ↔ c = k) := fun z k ez => by
      rw [ez, S_one]
      constructor
      · intro h; have := S_inj (V.str.inj h); simpa using this
      · intro h; rw [h]
    have s91 := sign (Str.ofString "[") 91 (ofS _)
    have s93 := sign (Str.ofString "]") 93 (ofS _)
    have s32 := sign (Str.ofString " ") 32 (ofS _)
    refine ⟨_, rfl, rfl, _, rfl, iteD (fun c1 => ⟨_, rfl, _, _, rfl, rfl, ?G1⟩) (fun c1 => ⟨_, rfl, rfl, _, rfl, iteD (fun c2 => ⟨_, rfl, _, _, rfl, rfl, ?G2⟩) (fun c2 => ?G3)⟩)⟩
    case' G1 => have hw : lvl lv c = lv + 1 := by unfold lvl; rw [if_pos (s91.mp c1)]
    case' G2 => have hw : lvl lv c = lv - 1 := by unfold lvl; rw [if_neg (fun z => c1 (s91.mpr z)), if_pos (s93.mp c2)]
    case' G3 => have hw : lvl lv c = lv := by unfold lvl; rw [if_neg (fun z => c1 (s91.mpr z)), if_neg (fun z => c2 (s93.mpr z))]
    all_goals
      rw [hw] at hgo
      refine ⟨_, rfl, _, _, rfl, rfl, _, rfl, iteD (fun c3 => ?_) (fun c3 => ?_)⟩
      · rw [if_pos c3] at hgo
        exact e hgo H1 (s1.trans hid_le)
      rw [if_neg c3] at hgo
      have hlast : atI ((done ++ [cur]).map fun x => V.str (S x)) (-1) = some (V.str (S cur)) := by
        rw [List.map_append]; exact atI_last _ _
      have hix : ixN ((done ++ [cur]).map fun x => V.str (S x)).length (-1) = some done.length := by
        rw [List.length_map, List.length_append, List.length_singleton]; exact ixN_last
      have hset : ((done ++ [cur]).map fun x => V.str (S x)).set done.length (V.str (S (cur ++ [c]))) = (done ++ [cur ++ [c]]).map fun x => V.str (S x) := by
        rw [List.map_append, List.map_append, List.set_append_right _ _ (by rw [List.length_map]; exact Nat.le_refl _), List.length_map, Nat.sub_self]
        rfl
      split at hgo
      · rename_i h4
        refine ⟨_, rfl, rfl, _, rfl, iteD (fun c4 => ⟨_, rfl, rfl, _, rfl, iteD (fun c5 => ?_) (fun c5 => absurd (congrArg V.int h4.2) c5)⟩) (fun c4 => absurd (s32.mpr h4.1) c4)⟩
        refine ⟨_, rfl, .inl ⟨rfl, _, SqL.of e1⟩, p, _, _, rfl, rfl, e1, ?_, ?_, done ++ [cur], [], _, _, rfl, ?_, ?_, ?_, ?_⟩
        · rw [List.length_map, List.length_append, List.length_singleton]; omega
        · rw [hid_upd]; exact s1
        · rw [upd_same, List.map_append (l₂ := [[]])]
          rw [ofS]; rfl
        · rw [hgo]
          cases partGo _ [] (l.drop (i + 1)) with
          | none => rfl
          | some z => simp
        · rw [List.length_append, List.length_singleton]; omega
        · exact Nat.zero_le _
      · rename_i h4
        refine (fun hF => ⟨_, rfl, rfl, _, rfl, iteD (fun c4 => ⟨_, rfl, rfl, _, rfl, iteD (fun c5 => absurd ⟨s32.mp c4, V.int.inj c5⟩ h4) (fun _ => hF)⟩) (fun _ => hF)⟩) ?_
        refine ⟨_, rfl, _, rfl, p, _, _, _, rfl, rfl, SqL.of e1, hlast, _, rfl, _, _, rfl, rfl, ?_, _, rfl, _, rfl, p, _, _, _, rfl, rfl, e1, hix, ?_, done, cur ++ [c], _, _, rfl, ?_, hgo, by omega, by rw [List.length_append, List.length_singleton]; omega⟩
        · rw [S_len]
          show cur.length + 1 ≤ _
          omega
        · rw [hid_upd]; exact s1
        · rw [upd_same, S_one, S_app]
          rw [hset]
  · subst hσ
    have e : (S l).cps.size = l.length := S_len l
    rw [e, List.drop_length, partGo] at hgo
    exact ⟨_, rfl, q _ hgo p H1 hp e1 (s1.trans hid_le)⟩
end K55
namespace K55
open PySem PySem.Spec PyProof.Rows L2 PreX FG
variable {P : Program} {w : World} {K : PySem.W.Frag} {mg : Str → Option Value} {base : Heap}

theorem sIx_neg1 (n d : Nat) : HT.sIx n d (some (-1)) = n - 1 := by
  show (if (-1 : Int) < 0 then ((-1 : Int) + (n : Int)).toNat else min (-1 : Int).toNat n) = n - 1
  rw [if_pos (by decide)]
  omega
theorem cutS_last (l : L) : cutS (S l) (some (-1)) none = S (l.drop (l.length - 1)) := by
  rw [cutS_S, sIx_neg1, HT.sIx_none, List.take_of_length_le (by rw [List.length_drop]; omega)]
theorem cutS_mid (l : L) (k : Nat) : cutS (S l) (some (k : Int)) (some (-1)) = S ((l.take (l.length - 1)).drop k) := by
  rw [cutS_S, sIx_neg1, HT.sIx_nat]
  congr 1
  rw [← List.drop_take]
  by_cases h : k ≤ l.length
  · rw [Nat.min_eq_left h]
  · rw [Nat.min_eq_right (by omega), List.drop_eq_nil_of_le (by rw [List.length_take]; omega), List.drop_eq_nil_of_le (by rw [List.length_take]; omega)]
theorem part_in {t : L} {c : Nat} (h : c ∈ t) : Txt.partition (S t) (S [c]) = (S (ahead c t), S [c], S (t.drop ((ahead c t).length + 1))) := by
  refine SX.partition_some (by simp) ?_
  conv => lhs; rw [ahead_cut h]
  exact SX.par_head _ ahead_free
theorem part_out {t : L} {c : Nat} (h : c ∉ t) : Txt.partition (S t) (S [c]) = (S t, S [], S []) := SX.partition_none (by simp) (SX.par_head_none h)
theorem part_fst {t : L} {c : Nat} : (Txt.partition (S t) (S [c])).1 = S (ahead c t) := by
  by_cases h : c ∈ t
  · rw [part_in h]
  · rw [part_out h, ahead_all h]
theorem inner_infix (t : L) : inner t <:+: t := by
  unfold inner
  exact ((List.drop_suffix _ _).isInfix).trans (List.take_prefix _ _).isInfix
theorem partGo_len : ∀ {r : L} {lv : Int} {cur : L} {ws : List L}, partGo lv cur r = some ws → ws.length ≤ r.length + 1
  | [], lv, cur, ws, h => by cases h; simp
  | c :: r, lv, cur, ws, h => by
    rw [partGo] at h
    split at h
    · cases h
    · split at h
      · obtain ⟨zs, h1, rfl⟩ := Option.map_eq_some_iff.mp h
        have := partGo_len h1
        simp only [List.length_cons]; omega
      · have := partGo_len h
        simp only [List.length_cons]; omega
theorem parted_len {t : L} {ws : List L} (h : parted t = some ws) : ws.length ≤ t.length + 1 := partGo_len h
theorem mapO_none {α β : Type} {f : α → Option β} : ∀ {xs : List α} {x : α}, x ∈ xs → f x = none → mapO f xs = none
  | a :: r, x, h, e => by
    rw [mapO]
    rcases List.mem_cons.mp h with rfl | h
    · rw [e]
    · rw [mapO_none h e]
      cases f a <;> rfl
theorem mapO_snoc {α β : Type} {f : α → Option β} : ∀ {xs : List α} {ys : List β} {x : α} {y : β}, mapO f xs = some ys → f x = some y → mapO f (xs ++ [x]) = some (ys ++ [y])
  | [], _, x, y, h, e => by
    cases h
    show mapO f [x] = _
    rw [mapO, e]; rfl
  | a :: r, ys, x, y, h, e => by
    rw [mapO] at h
    cases ha : f a with
    | none => rw [ha] at h; cases h
    | some b =>
      rw [ha] at h
      obtain ⟨zs, h1, rfl⟩ := Option.map_eq_some_iff.mp h
      rw [List.cons_append, mapO, ha]
      show (mapO f (r ++ [x])).map (b :: ·) = _
      rw [mapO_snoc h1 e]; rfl
def spRExp (C : Addr) (n : Nat) : Sp := fun vs H Q E => ∃ (t : L) (m : Nat), vs = [.str (S t), .int (m : Int)] ∧ m < n ∧ t.length ≤ 1000000 ∧ runs 3999 t ∧ (∀ e, readExp m t = some e → ∀ (v : V) (H' : Hp), Same H H' → Dt H' v e.d → Q v H') ∧ (readExp m t = none → ∀ H', Same H H' → E (.ref C) none H')
theorem ok_read_expression_n (t : T w K mg) {n : Nat} (G : FnOk P w K mg base (L2.CX P w) (n + 2) t.a_read_expression t.d_read_expression ["text", "most"] (spRExp t.C_NoText n)) :
    FnOk P w K mg base (L2.CX P w) (n + 3) t.a_read_expression t.d_read_expression ["text", "most"] (spRExp t.C_NoText (n + 1)) := by
  refine t.F_read_expression.ok sc_read_expression (fun vs H Q E h => ?_) (fun cdv A outer s H vs Q E hr h => ?_)
  · obtain ⟨l, m, rfl, _⟩ := h
    rfl
  obtain ⟨l, m, rfl, hm, hl, hrn, q, e⟩ := h
  have hz : (S l).length ≤ sizeLine := by rw [S_len]; exact Nat.le_trans hl (by decide)
  refine ⟨_, (pss_cons (ps_if (pt_cmpR op_lt (pv 1) pe_int (by first | exact nomark _ | rfl)) (pss_one (ps_raise rfl (takes_of rfl rfl rfl rfl) (pmk_own PySem.F.excBase_ValueError t.x_NoText.1 t.g_NoText t.x_NoText.2.1 (raises_own t.x_NoText.2.2.1 t.x_NoText.2.2.2) rfl)))
    pss_nil)
    (pss_cons (ps_if (pt_cmpR op_eq (pv 0) pe_str (by first | exact nomark _ | rfl)) (pss_one (ps_ret (pe_tup (pa_cons pe_str pa_nil))))
    pss_nil)
    (pss_cons (ps_if (pt_cmpR op_ne (pe_slice sl_str (pv 0) (po_some (pe_un un_neg pe_int)) po_none) pe_str (by first | exact nomark _ | rfl)) (pss_one (ps_ret (pe_call (ok_read_number t) (hr.mono (by omega)) rfl t.g_read_number t.F_read_number.kp (b_read_number t) .nil (passes_call (takes_of rfl rfl rfl rfl) fun _ _ _ _ h => h) (pa_cons (pv 0) pa_nil))))
    pss_nil)
    (pss_cons (ps_set (i := 2) sc_read_expression.nd rfl (by first | exact Or.inl rfl | exact Or.inr rfl) (pe_ix (ix_tup_k K rfl) (pe_partition (pv 0) pe_str) pe_int (fun _ _ => rfl)))
    (pss_cons (ps_if (PW.pt (pw_or (pt_cmpR (op_notIn_kd t.kd_PARTS.choose_spec.choose_spec) (pv 2) (pe_glob (v := .ref t.A_PARTS) rfl t.g_PARTS rfl) (by first | exact nomark _ | rfl)) (pw_or1 (pt_cmpR op_eq (pv 2) pe_str (by first | exact nomark _ | rfl))))) (pss_one (ps_raise rfl (takes_of rfl rfl rfl rfl) (pmk_own PySem.F.excBase_ValueError t.x_NoText.1 t.g_NoText t.x_NoText.2.1 (raises_own t.x_NoText.2.2.1 t.x_NoText.2.2.2) rfl)))
    pss_nil)
    (pss_cons (ps_set (i := 3) sc_read_expression.nd rfl (by first | exact Or.inl rfl | exact Or.inr rfl) (pe_call (ok_parted t) (hr.mono (by omega)) rfl t.g_parted t.F_parted.kp (b_parted t) .nil (passes_call (takes_of rfl rfl rfl rfl) fun _ _ _ _ h => h) (pa_cons (pe_slice sl_str (pv 0) (po_some (pe_op op_add (pe_callB call_len_str (by rfl) t.z_len (by decide +kernel) (pa_cons (pv 2) pa_nil)) pe_int)) (po_some (pe_un un_neg pe_int))) pa_nil)))
    (pss_one (ps_ret (pe_callTy (call_tuple_of_k K rfl) (by rfl) t.z_tuple (by decide +kernel) (pa_cons (pe_op op_cat (pe_lst (pa_cons (pv 2) pa_nil)) (XC.pe_lcX (own := [("one", 4)]) (g := gName 4) (tt := tYes) rfl rfl (takes_of rfl rfl rfl rfl) rfl sc_read_expression.nd (pi_list_k K rfl (pv 3)) (blkOk_by (own := [("one", 4)]) (N := N_read_expression) (sc := defScope s_read_expression) (by decide +kernel)) (fun _ _ _ _ _ _ => (pg_name (i := 4) sc_read_expression.nd rfl (by first | exact Or.inl rfl | exact Or.inr rfl))) (fun _ _ _ _ _ _ => pts_nil) (fun _ _ _ _ _ _ tkb => (pe_call G (hr.mono (by omega)) rfl t.g_read_expression t.F_read_expression.kp (b2_read_expression t) .nil (passes_call tkb fun _ _ _ _ h => h) (pa_cons (pv 4) (pa_cons (pe_op op_sub (pv 1) pe_int) pa_nil)))))) pa_nil)))))))))), ?_⟩
  refine ⟨_, rfl, _, _, rfl, rfl, _, rfl, iteD (fun c => ?_) (fun c => ?_)⟩
  · have : m = 0 := by omega
    subst this
    exact e rfl H (Same.refl _)
  obtain ⟨m, rfl⟩ : ∃ k, m = k + 1 := ⟨m - 1, by omega⟩
  rw [readExp] at q e
  refine ⟨_, rfl, rfl, _, rfl, iteD (fun c2 => ⟨(by show 1 ≤ sizeLine; decide), fun p hp => ?_⟩) (fun c2 => ?_)⟩
  · have c2' : l = wArg := S_inj (by rw [V.str.inj c2, ofS]; rfl)
    rw [if_pos c2'] at q
    refine q _ rfl _ _ (same_new hp) (.tup upd_same ?_)
    rw [ofS]
    exact .cons (.str _) .nil
  have c2' : l ≠ wArg := fun z => c2 (by rw [z, ofS]; rfl)
  rw [if_neg c2'] at q e
  refine ⟨_, rfl, _, rfl, _, rfl, _, rfl, hz, rfl, _, rfl, ?_⟩
  have e93 : (V.str (cutS (S l) (some (-1)) none) = V.str (Str.ofString "]")) ↔ l.drop (l.length - 1) = [93] := by
    rw [cutS_last, ofS]
    constructor
    · intro h; exact S_inj (V.str.inj h)
    · intro h; rw [h]; rfl
  refine iteDN (fun c3 => ?_) (fun c3 => ?_)
  · have c3' := fun z => c3 (e93.mpr z)
    rw [if_pos c3'] at q e
    exact ⟨_, rfl, l, rfl, hl, hrn, fun i hi H' s' => q (.num i) (by rw [hi]; rfl) _ _ s' (.int i), fun hi H' s' => e (by rw [hi]; rfl) H' s'⟩
  have c3' := e93.mp c3
  rw [if_neg (fun z => z c3')] at q e
  refine ⟨_, rfl, ⟨_, rfl⟩, _, _, rfl, rfl, rfl, hz, fun p1 hp1 => ?_⟩
  refine ⟨p1, _, _, V.str (S (ahead 91 l)), rfl, rfl, SqT.of upd_same, ?_, ?_⟩
  · have : (Txt.partition (S l) (Str.ofString "[")).1 = S (ahead 91 l) := by rw [ofS]; exact part_fst
    rw [← this]
    exact at0
  have s1 := same_new (o := .tup [.str (Txt.partition (S l) (Str.ofString "[")).1, .str (Txt.partition (S l) (Str.ofString "[")).2.1, .str (Txt.partition (S l) (Str.ofString "[")).2.2]) hp1
  generalize upd H p1 (.tup [.str (Txt.partition (S l) (Str.ofString "[")).1, .str (Txt.partition (S l) (Str.ofString "[")).2.1, .str (Txt.partition (S l) (Str.ofString "[")).2.2]) = H1 at *
  have hwl : (ahead 91 l).length ≤ l.length := (List.takeWhile_prefix _).length_le
  have hwz : (S (ahead 91 l)).length ≤ sizeLine := by rw [S_len]; exact Nat.le_trans hwl (Nat.le_trans hl (by decide))
  rcases parts_ns t (ahead 91 l) with ⟨e1, e2⟩ | ⟨j, u, e1, e2, e3⟩
  · rw [e1] at e
    exact ⟨_, rfl, S (ahead 91 l), _, rfl, rfl, e2, _, rfl, iteT (e rfl H1 s1)⟩
  rw [e1] at q e
  have harg : (V.str (S (ahead 91 l)) = V.str (Str.ofString "arg")) ↔ j = 0 := by
    constructor
    · intro z
      have : ahead 91 l = wArg := S_inj (by rw [V.str.inj z, ofS]; rfl)
      rw [this] at e1
      have e4 : parts wArg = some 0 := by decide
      rw [e4] at e1
      exact (Option.some.inj e1).symm
    · intro z
      rw [z] at e1
      rw [parts_zero e1, ofS]; rfl
  refine ⟨_, rfl, S (ahead 91 l), _, rfl, rfl, e2, _, rfl, iteF ⟨_, rfl, rfl, _, rfl, iteD (fun c4 => ?_) (fun c4 => ?_)⟩⟩
  · rw [harg.mp c4] at e
    exact e rfl H1 s1
  obtain ⟨j, rfl⟩ : ∃ k, j = k + 1 := ⟨j - 1, by have h0 : j ≠ 0 := fun z => c4 (harg.mpr z); omega⟩
  refine ⟨_, rfl, _, rfl, _, rfl, hwz, _, _, rfl, rfl, _, rfl, _, rfl, _, rfl, _, rfl, hz, ?_⟩
  have ein : cutS (S l) (some (((S (ahead 91 l)).length : Int) + 1)) (some (-1)) = S (inner l) := by
    rw [S_len]
    exact cutS_mid l ((ahead 91 l).length + 1)
  rw [ein]
  have hil := (inner_infix l).length_le
  have q : ∀ g, (parted (inner l)).bind (fun ws => (mapO (readExp m) ws).map fun as => GE.node (ahead 91 l) as) = some g → ∀ (v : V) (H' : Hp), Same H H' → Dt H' v g.d → Q v H' := q
  have e : (parted (inner l)).bind (fun ws => (mapO (readExp m) ws).map fun as => GE.node (ahead 91 l) as) = none → ∀ (H' : Hp), Same H H' → E (.ref t.C_NoText) none H' := e
  refine ⟨inner l, rfl, Nat.le_trans hil hl, fun ws hws p2 H2 hp2 e2' s2 => ?_, fun hno H' s' => e (by rw [hno]; rfl) H' (s1.trans s')⟩
  rw [hws] at q e
  refine ⟨_, rfl, (by show 1 ≤ sizeLine; decide), fun p3 hp3 => ?_⟩
  have s3 := same_new (o := .lst [.str (S (ahead 91 l))]) hp3
  have e3' : (upd H2 p3 (.lst [.str (S (ahead 91 l))])) p3 = some (.lst [.str (S (ahead 91 l))]) := upd_same
  generalize upd H2 p3 (.lst [.str (S (ahead 91 l))]) = H3 at *
  have e23 := s3 _ _ e2'
  have s03 : Same H H3 := s1.trans (s2.trans s3)
  refine ⟨_, rfl, p2, rfl, ⟨_, SqL.of e23⟩, fun D hD => ?_⟩
  have hwsl := parted_len hws
  refine lc_it (walk_list (K := K) (a := p2) (xs := ws.map fun x => V.str (S x))) (fun i H' => Same H3 (hid D H') ∧ ∃ (us : List V) (as : List GE), H' D = some (.lst us) ∧ mapO (readExp m) (ws.take i) = some as ∧ DtA (hid D H') us (as.map GE.d))
    ⟨by rw [hid_upd]; exact same_hid hD (Same.refl _), [], [], upd_same, rfl, .nil⟩ (fun i H' _ ⟨p1, _⟩ => SqL.of (hid_le _ _ (p1 _ _ e23))) (fun i x H4 H5 hi ⟨s4, us, as, e4, has, d4⟩ y => ?_) (fun H4 ⟨s4, us, as, e4, has, d4⟩ => ?_)
  · obtain ⟨eH, hxi⟩ := y
    cases eH
    rw [List.getElem?_map] at hxi
    obtain ⟨x1, hx1, rfl⟩ := Option.map_eq_some_iff.mp hxi
    have hmx := List.mem_of_getElem? hx1
    have hinf := (parted_infix hws x1 hmx).trans (inner_infix l)
    have hmm : (((m + 1 : Nat)) : Int) - 1 = (m : Int) := by omega
    have s04 : Same H H4 := s03.trans (s4.trans hid_le)
    refine ⟨rfl, _, rfl, _, rfl, _, _, rfl, rfl, x1, m, by rw [← hmm]; rfl, by omega, Nat.le_trans hinf.length_le hl, hrn.infix hinf, fun ei hei v H6 s6 dv => ?_, fun hno H' s' => ?_⟩
    · have e6 := s6 _ _ e4
      have hilt : i < ws.length := (List.getElem?_eq_some_iff.mp hx1).1
      have hal := mapO_len has
      rw [List.length_take] at hal
      refine ⟨us, e6, ?_, ?_, us ++ [v], as ++ [ei], upd_same, ?_, ?_⟩
      · rw [d4.length, List.length_map, hal]
        refine Nat.lt_of_lt_of_le (m := 1000003) (by omega) (by decide)
      · rw [hid_upd]; exact s4.trans (hid_same s6)
      · rw [List.take_add_one, hx1]
        exact mapO_snoc has hei
      · rw [hid_upd, List.map_append]
        exact (d4.mono (hid_same s6)).append (.one (ge_hid e6 _ dv))
    · refine e ?_ H' (s04.trans s')
      show (mapO (readExp m) ws).map _ = none
      rw [mapO_none hmx hno]; rfl
  · rw [List.length_map, List.take_length] at has
    have hal := mapO_len has
    refine ⟨p3, D, _, _, rfl, rfl, hid_le _ _ (s4 _ _ e3'), e4, ?_, fun p4 hp4 => ?_⟩
    · rw [d4.length, List.length_map, List.length_singleton]
      refine Nat.le_trans (m := 1000003) (by omega) (by decide)
    refine ⟨p4, _, rfl, .inl ⟨SqL.of upd_same, fun p5 hp5 => ?_⟩⟩
    have s5 : Same H4 (upd H4 p4 (.lst ([.str (S (ahead 91 l))] ++ us))) := same_new hp4
    have s6 := same_new (o := .tup ([.str (S (ahead 91 l))] ++ us)) hp5
    refine q (.node (ahead 91 l) as) (by show (mapO (readExp m) ws).map _ = _; rw [has]; rfl) _ _ (s03.trans ((s4.trans hid_le).trans (s5.trans s6))) (.tup upd_same (.cons (.str _) ?_))
    rw [GE.ds_map]
    exact ((d4.mono hid_le).mono s5).mono s6
theorem ok_read_expression_lv (t : T w K mg) : ∀ n : Nat, FnOk P w K mg base (L2.CX P w) (n + 2) t.a_read_expression t.d_read_expression ["text", "most"] (spRExp t.C_NoText n)
  | 0 => ⟨fun vs H Q E h => by
    obtain ⟨v, m, _, h1, _⟩ := h
    omega, fun A outer s H args us vs Q E _ _ _ _ h => by
    obtain ⟨v, m, _, h1, _⟩ := h
    omega⟩
  | n + 1 => ok_read_expression_n t (ok_read_expression_lv t n)
theorem ok_read_expression (t : T w K mg) : FnOk P w K mg base (L2.CX P w) 8 t.a_read_expression t.d_read_expression ["text", "most"] (spRExp t.C_NoText 6) := ok_read_expression_lv t 6
end K55
namespace K55
open PySem PySem.Spec PyProof.Rows L2 PreX FG
variable {P : Program} {w : World} {K : PySem.W.Frag} {mg : Str → Option Value} {base : Heap}

theorem partGo_ne : ∀ {r : L} {lv : Int} {cur : L} {ws : List L}, partGo lv cur r = some ws → ws ≠ []
  | [], lv, cur, ws, h => by cases h; simp
  | c :: r, lv, cur, ws, h => by
    rw [partGo] at h
    split at h
    · cases h
    · split at h
      · obtain ⟨zs, h1, rfl⟩ := Option.map_eq_some_iff.mp h
        simp
      · exact partGo_ne h
theorem spl_len {sep : L} : ∀ {r : L} {k : Nat} {cur : L}, (TL.spl sep k cur r).length ≤ r.length + 1 := by
  intro r
  induction r with
  | nil => intro k cur; rw [TL.spl_nil]; simp
  | cons c r ih =>
    intro k cur
    cases k with
    | zero =>
      rw [TL.spl]
      split
      · have := ih (k := sep.length - 1) (cur := [])
        simp only [List.length_cons]; omega
      · have := ih (k := 0) (cur := cur ++ [c])
        simp only [List.length_cons]; omega
    | succ k =>
      rw [TL.spl]
      have := ih (k := k) (cur := cur)
      simp only [List.length_cons]; omega
def spRStep (C : Addr) : Sp := fun vs H Q E => ∃ (t : L), vs = [.str (S t)] ∧ t.length ≤ 1000000 ∧ runs 3999 t ∧ (∀ g, readStep t = some g → ∀ (v : V) (H' : Hp), Same H H' → Dt H' v g.d → Q v H') ∧ (readStep t = none → ∀ H', Same H H' → E (.ref C) none H')
theorem ok_read_step (t : T w K mg) : FnOk P w K mg base (L2.CX P w) 9 t.a_read_step t.d_read_step ["text"] (spRStep t.C_NoText) := by
  refine t.F_read_step.ok sc_read_step (fun vs H Q E h => ?_) (fun cdv A outer s H vs Q E hr h => ?_)
  · obtain ⟨l, rfl, _⟩ := h
    rfl
  obtain ⟨l, rfl, hl, hrn, q, e⟩ := h
  have hz : (S l).length ≤ sizeLine := by rw [S_len]; exact Nat.le_trans hl (by decide)
  have eqS : ∀ (x : L) (z : Str) (w : L), z = S w → ((V.str (S x) = V.str z) ↔ x = w) := fun x z w ez => by
    rw [ez]
    constructor
    · intro h; exact S_inj (V.str.inj h)
    · intro h; rw [h]
  refine ⟨_, (pss_cons (ps_set (i := 1) sc_read_step.nd rfl (by first | exact Or.inl rfl | exact Or.inr rfl) (pe_call (ok_parted t) (hr.mono (by decide)) rfl t.g_parted t.F_parted.kp (b_parted t) .nil (passes_call (takes_of rfl rfl rfl rfl) fun _ _ _ _ h => h) (pa_cons (pv 0) pa_nil)))
    (pss_cons (ps_if (PW.pt (pw_and (pt_cmpR op_eq (pe_ix (ix_list_k K rfl) (pv 1) pe_int (fun _ _ => rfl)) pe_str (by first | exact nomark _ | rfl)) (pw_and1 (pt_cmpR op_eq (pe_callB (call_len_seq_k K rfl) (by rfl) t.z_len (by decide +kernel) (pa_cons (pv 1) pa_nil)) pe_int (by first | exact nomark _ | rfl))))) (pss_one (ps_ret (pe_tup (pa_cons pe_str pa_nil))))
    pss_nil)
    (pss_cons (ps_if (pt_cmpR op_ne (pe_callB (call_len_seq_k K rfl) (by rfl) t.z_len (by decide +kernel) (pa_cons (pv 1) pa_nil)) pe_int (by first | exact nomark _ | rfl)) (pss_one (ps_raise rfl (takes_of rfl rfl rfl rfl) (pmk_own PySem.F.excBase_ValueError t.x_NoText.1 t.g_NoText t.x_NoText.2.1 (raises_own t.x_NoText.2.2.1 t.x_NoText.2.2.2) rfl)))
    pss_nil)
    (pss_cons (ps_if (pt_cmpR op_eq (pe_ix (ix_list_k K rfl) (pv 1) pe_int (fun _ _ => rfl)) pe_str (by first | exact nomark _ | rfl)) (pss_one (ps_ret (pe_tup (pa_cons pe_str (pa_cons (pe_call (ok_read_expression t) (hr.mono (by decide)) rfl t.g_read_expression t.F_read_expression.kp (b1_read_expression t).choose_spec.2 (b1_read_expression t).choose_spec.1 (passes_call (takes_of rfl rfl rfl rfl) fun _ _ _ _ h => h) (pa_cons (pe_ix (ix_list_k K rfl) (pv 1) pe_int (fun _ _ => rfl)) pa_nil)) (pa_cons (pe_call (ok_read_expression t) (hr.mono (by decide)) rfl t.g_read_expression t.F_read_expression.kp (b1_read_expression t).choose_spec.2 (b1_read_expression t).choose_spec.1 (passes_call (takes_of rfl rfl rfl rfl) fun _ _ _ _ h => h) (pa_cons (pe_ix (ix_list_k K rfl) (pv 1) pe_int (fun _ _ => rfl)) pa_nil)) pa_nil))))))
    pss_nil)
    (pss_cons (ps_if (pt_cmpR op_eq (pe_ix (ix_list_k K rfl) (pv 1) pe_int (fun _ _ => rfl)) pe_str (by first | exact nomark _ | rfl)) (pss_one (ps_ret (pe_tup (pa_cons pe_str (pa_cons (pe_call (ok_read_expression t) (hr.mono (by decide)) rfl t.g_read_expression t.F_read_expression.kp (b1_read_expression t).choose_spec.2 (b1_read_expression t).choose_spec.1 (passes_call (takes_of rfl rfl rfl rfl) fun _ _ _ _ h => h) (pa_cons (pe_ix (ix_list_k K rfl) (pv 1) pe_int (fun _ _ => rfl)) pa_nil)) (pa_cons (pe_call (ok_read_number t) (hr.mono (by decide)) rfl t.g_read_number t.F_read_number.kp (b_read_number t) .nil (passes_call (takes_of rfl rfl rfl rfl) fun _ _ _ _ h => h) (pa_cons (pe_ix (ix_list_k K rfl) (pv 1) pe_int (fun _ _ => rfl)) pa_nil)) pa_nil))))))
    pss_nil)
    (pss_one (ps_ret (pe_tup (pa_cons (pe_ix (ix_list_k K rfl) (pv 1) pe_int (fun _ _ => rfl)) (pa_cons (pe_ix (ix_list_k K rfl) (pv 1) pe_int (fun _ _ => rfl)) (pa_cons (pe_call (ok_read_expression t) (hr.mono (by decide)) rfl t.g_read_expression t.F_read_expression.kp (b1_read_expression t).choose_spec.2 (b1_read_expression t).choose_spec.1 (passes_call (takes_of rfl rfl rfl rfl) fun _ _ _ _ h => h) (pa_cons (pe_ix (ix_list_k K rfl) (pv 1) pe_int (fun _ _ => rfl)) pa_nil)) pa_nil))))))))))), ?_⟩
  unfold readStep at q e
  refine ⟨_, rfl, l, rfl, hl, fun ws hws p H1 hp e1 s1 => ?_, fun hno H' s' => e (by rw [hno]; rfl) H' s'⟩
  rw [hws] at q e
  replace q : ∀ g, stepOf ws = some g → ∀ (v : V) (H' : Hp), Same H H' → Dt H' v g.d → Q v H' := q
  replace e : stepOf ws = none → ∀ (H' : Hp), Same H H' → E (.ref t.C_NoText) none H' := e
  have hinf := parted_infix hws
  have hwl := parted_len hws
  obtain ⟨a, r, rfl⟩ : ∃ a r, ws = a :: r := by
    cases ws with
    | nil => exact absurd rfl (partGo_ne hws)
    | cons a r => exact ⟨a, r, rfl⟩
  have ex : ∀ x ∈ a :: r, x.length ≤ 1000000 ∧ runs 3999 x := fun x hx => ⟨Nat.le_trans (hinf x hx).length_le hl, hrn.infix (hinf x hx)⟩
  have sq := SqL.of (K := K) e1
  by_cases hw : a :: r = [wWait]
  · rw [hw, stepOf_wait] at q
    injection hw with ha hr0
    subst hr0
    refine ⟨_, rfl, p, _, _, _, rfl, rfl, sq, at0, rfl, _, rfl, iteD (fun c1 => ⟨_, rfl, p, _, rfl, .inl sq, rfl, _, rfl, iteD (fun c2 => ?_) (fun c2 => absurd rfl c2)⟩) (fun c1 => absurd ((eqS a _ wWait (ofS _)).mpr ha) c1)⟩
    refine ⟨(by show 1 ≤ sizeLine; decide), fun p2 hp2 => q .wait rfl _ _ (s1.trans (same_new hp2)) (.tup upd_same ?_)⟩
    rw [ofS]
    exact .cons (.str _) .nil
  refine (fun hF => ⟨_, rfl, p, _, _, _, rfl, rfl, sq, at0, rfl, _, rfl, iteD (fun c1 => ⟨_, rfl, p, _, rfl, .inl sq, rfl, _, rfl, iteD (fun c2 => absurd (by
      have h1 := (eqS a _ wWait (ofS _)).mp c1
      have h2 := V.int.inj c2
      rw [List.length_map, List.length_cons] at h2
      have h3 : r = [] := List.eq_nil_of_length_eq_zero (by omega)
      rw [h1, h3] : a :: r = [wWait]) hw) (fun c2 => hF)⟩) (fun c1 => hF)⟩) ?F1
  refine ⟨_, rfl, p, _, rfl, .inl sq, rfl, _, rfl, iteDN (fun c1 => ?_) (fun c1 => ?_)⟩
  · refine e ?_ H1 s1
    unfold stepOf
    rw [if_neg hw]
    split
    · rename_i hh
      exfalso
      refine c1 ?_
      rw [hh]; rfl
    · rfl
  obtain ⟨b, c, rfl⟩ : ∃ b c, r = [b, c] := by
    have h2 := V.int.inj c1
    rw [List.length_map, List.length_cons] at h2
    match r, h2 with
    | [b, c], _ => exact ⟨b, c, rfl⟩
    | [], h2 => simp at h2
    | [_], h2 => simp at h2
    | _ :: _ :: _ :: _, h2 => simp only [List.length_cons] at h2; omega
  rw [stepOf_3] at q e
  unfold step3 at q e
  have mb : b ∈ [a, b, c] := by simp
  have mc : c ∈ [a, b, c] := by simp
  refine ⟨_, rfl, p, _, _, _, rfl, rfl, sq, at0, rfl, _, rfl, iteD (fun c1 => ?_) (fun c1 => ?_)⟩
  · have c1' := (eqS a _ wCell (ofS _)).mp c1
    rw [if_pos c1'] at q e
    refine ⟨_, rfl, p, _, _, _, rfl, rfl, sq, at1, b, 5, rfl, by decide, (ex b mb).1, (ex b mb).2, fun x hx v H2 s2 d2 => ?_, fun hno H' s' => e (by rw [hno]; rfl) H' (s1.trans s')⟩
    rw [hx] at q e
    have e2 := s2 _ _ e1
    refine ⟨_, rfl, p, _, _, _, rfl, rfl, SqL.of e2, at2, c, 5, rfl, by decide, (ex c mc).1, (ex c mc).2, fun y hy v3 H3 s3 d3 => ?_, fun hno H' s' => e (by show (readExp 5 c).map _ = none; rw [hno]; rfl) H' (s1.trans (s2.trans s'))⟩
    refine ⟨(by show 3 ≤ sizeLine; decide), fun p4 hp4 => ?_⟩
    have s4 := same_new (o := .tup [.str (Str.ofString "cell"), v, v3]) hp4
    refine q (.cell x y) (by show (readExp 5 c).map _ = _; rw [hy]; rfl) _ _ (s1.trans (s2.trans (s3.trans s4))) (.tup upd_same ?_)
    rw [ofS]
    exact .cons (.str _) (.cons ((d2.mono s3).mono (by rw [ofS] at s4; exact s4)) (.cons (d3.mono (by rw [ofS] at s4; exact s4)) .nil))
  rw [if_neg (fun z => c1 ((eqS a _ wCell (ofS _)).mpr z))] at q e
  refine ⟨_, rfl, p, _, _, _, rfl, rfl, sq, at0, rfl, _, rfl, iteD (fun c2 => ?_) (fun c2 => ?_)⟩
  · have c2' := (eqS a _ wSkip (ofS _)).mp c2
    rw [if_pos c2'] at q e
    refine ⟨_, rfl, p, _, _, _, rfl, rfl, sq, at1, b, 5, rfl, by decide, (ex b mb).1, (ex b mb).2, fun x hx v H2 s2 d2 => ?_, fun hno H' s' => e (by rw [hno]; rfl) H' (s1.trans s')⟩
    rw [hx] at q e
    have e2 := s2 _ _ e1
    refine ⟨_, rfl, p, _, _, _, rfl, rfl, SqL.of e2, at2, c, rfl, (ex c mc).1, (ex c mc).2, fun y hy H3 s3 => ?_, fun hno H' s' => e (by show (readNum c).map _ = none; rw [hno]; rfl) H' (s1.trans (s2.trans s'))⟩
    refine ⟨(by show 3 ≤ sizeLine; decide), fun p4 hp4 => ?_⟩
    have s4 := same_new (o := .tup [.str (Str.ofString "skip"), v, .int y]) hp4
    refine q (.skip x y) (by show (readNum c).map _ = _; rw [hy]; rfl) _ _ (s1.trans (s2.trans (s3.trans s4))) (.tup upd_same ?_)
    rw [ofS]
    exact .cons (.str _) (.cons ((d2.mono s3).mono (by rw [ofS] at s4; exact s4)) (.cons (.int _) .nil))
  rw [if_neg (fun z => c2 ((eqS a _ wSkip (ofS _)).mpr z))] at q e
  refine ⟨_, rfl, p, _, _, _, rfl, rfl, sq, at0, _, rfl, p, _, _, _, rfl, rfl, sq, at1, ?_⟩
  refine ⟨_, rfl, p, _, _, _, rfl, rfl, sq, at2, c, 5, rfl, by decide, (ex c mc).1, (ex c mc).2, fun y hy v H2 s2 d2 => ?_, fun hno H' s' => e (by rw [hno]; rfl) H' (s1.trans s')⟩
  refine ⟨(by show 3 ≤ sizeLine; decide), fun p4 hp4 => ?_⟩
  have s4 := same_new (o := .tup [.str (S a), .str (S b), v]) hp4
  exact q (.other a b y) (by rw [hy]; rfl) _ _ (s1.trans (s2.trans s4)) (.tup upd_same (.cons (.str _) (.cons (.str _) (.cons (d2.mono s4) .nil))))
def spRHelper (C : Addr) : Sp := fun vs H Q E => ∃ (t : L), vs = [.str (S t)] ∧ t.length ≤ 1000000 ∧ runs 3999 t ∧
  (∀ h, readHelper t = some h → ∀ (p s : Addr) (xs : List V) (H' : Hp), Same H H' → H p = none → H s = none → p ≠ s → H' p = some (.tup [.str (S h.1), .ref s]) → H' s = some (.lst xs) → DtA (hid s H') xs (h.2.map GS.d) → Q (.ref p) H') ∧
  (readHelper t = none → ∀ H', Same H H' → E (.ref C) none H')
theorem ok_read_helper (t : T w K mg) : FnOk P w K mg base (L2.CX P w) 10 t.a_read_helper t.d_read_helper ["text"] (spRHelper t.C_NoText) := by
  refine t.F_read_helper.ok sc_read_helper (fun vs H Q E h => ?_) (fun cdv A outer s H vs Q E hr h => ?_)
  · obtain ⟨l, rfl, _⟩ := h
    rfl
  obtain ⟨l, rfl, hl, hrn, q, e⟩ := h
  have hz : (S l).length ≤ sizeLine := by rw [S_len]; exact Nat.le_trans hl (by decide)
  unfold readHelper at q e
  refine ⟨_, (pss_cons (ps_asg (pe_partition (pv 0) pe_str) (pg_tup rfl (pgs_cons (pg_name (i := 1) sc_read_helper.nd rfl (by first | exact Or.inl rfl | exact Or.inr rfl)) (pgs_cons (pg_name (i := 2) sc_read_helper.nd rfl (by first | exact Or.inl rfl | exact Or.inr rfl)) (pgs_cons (pg_name (i := 3) sc_read_helper.nd rfl (by first | exact Or.inl rfl | exact Or.inr rfl)) pgs_nil)))))
    (pss_cons (ps_if (PW.pt (pw_or (pt_cmpR op_eq (pv 2) pe_str (by first | exact nomark _ | rfl)) (pw_or1 (PW.pt (pw_and (pt_cmpR op_ne (pv 3) pe_str (by first | exact nomark _ | rfl)) (pw_and1 (pt_cmpR op_ne (pe_ix ix_str (pv 3) pe_int (fun _ _ => rfl)) pe_str (by first | exact nomark _ | rfl)))))))) (pss_one (ps_raise rfl (takes_of rfl rfl rfl rfl) (pmk_own PySem.F.excBase_ValueError t.x_NoText.1 t.g_NoText t.x_NoText.2.1 (raises_own t.x_NoText.2.2.1 t.x_NoText.2.2.2) rfl)))
    pss_nil)
    (pss_cons (ps_if (pt_cmpR op_eq (pv 3) pe_str (by first | exact nomark _ | rfl)) (pss_one (ps_ret (pe_tup (pa_cons (pv 1) (pa_cons (pe_lst pa_nil) pa_nil)))))
    pss_nil)
    (pss_one (ps_ret (pe_tup (pa_cons (pv 1) (pa_cons (XC.pe_lcX (own := [("one", 4)]) (g := gName 4) (tt := tYes) rfl rfl (takes_of rfl rfl rfl rfl) rfl sc_read_helper.nd (pi_list_k K rfl (pe_split (pe_slice sl_str (pv 3) (po_some pe_int) po_none) pe_str)) (blkOk_by (own := [("one", 4)]) (N := N_read_helper) (sc := defScope s_read_helper) (by decide +kernel)) (fun _ _ _ _ _ _ => (pg_name (i := 4) sc_read_helper.nd rfl (by first | exact Or.inl rfl | exact Or.inr rfl))) (fun _ _ _ _ _ _ => pts_nil) (fun _ _ _ _ _ _ tkb => (pe_call (ok_read_step t) (hr.mono (by decide)) rfl t.g_read_step t.F_read_step.kp (b_read_step t) .nil (passes_call tkb fun _ _ _ _ h => h) (pa_cons (pv 4) pa_nil)))) pa_nil)))))))), ?_⟩
  refine ⟨_, rfl, ⟨_, rfl⟩, _, _, rfl, rfl, rfl, hz, fun p1 hp1 => ?_⟩
  by_cases h58 : 58 ∈ l
  case neg =>
    rw [if_neg h58] at e
    have ep : Txt.partition (S l) (Str.ofString ":") = (S l, S [], S []) := by rw [ofS]; exact part_out h58
    rw [ep]
    refine ⟨p1, _, rfl, SqT.of upd_same, rfl, _, _, rfl, _, _, rfl, _, _, rfl, rfl, ?_⟩
    have s1 := same_new (o := .tup [.str (S l), .str (S []), .str (S [])]) hp1
    exact ⟨_, rfl, rfl, _, rfl, iteD (fun _ => e rfl _ s1) (fun c => absurd (by rw [ofS]; rfl) c)⟩
  rw [if_pos h58] at q e
  have ep : Txt.partition (S l) (Str.ofString ":") = (S (ahead 58 l), S [58], S (l.drop ((ahead 58 l).length + 1))) := by rw [ofS]; exact part_in h58
  rw [ep]
  refine ⟨p1, _, rfl, SqT.of upd_same, rfl, ?_⟩
  have s1 := same_new (o := .tup [.str (S (ahead 58 l)), .str (S [58]), .str (S (l.drop ((ahead 58 l).length + 1)))]) hp1
  have h58n : ¬ V.str (S [58]) = V.str (Str.ofString "") := fun z => by
    rw [ofS] at z
    have := S_inj (V.str.inj z)
    cases this
  have hful : (l.drop ((ahead 58 l).length + 1)).length ≤ l.length := by rw [List.length_drop]; omega
  have hfi : l.drop ((ahead 58 l).length + 1) <:+: l := (List.drop_suffix _ _).isInfix
  generalize ahead 58 l = nm at *
  generalize l.drop (nm.length + 1) = fu at *
  show gCons (gName 1) (gCons (gName 2) (gCons (gName 3) gNil)) [V.str (S nm), V.str (S [58]), V.str (S fu)] _ (upd H p1 (.tup [.str (S nm), .str (S [58]), .str (S fu)])) _
  generalize upd H p1 (.tup [.str (S nm), .str (S [58]), .str (S fu)]) = H1 at *
  refine ⟨_, _, rfl, _, _, rfl, _, _, rfl, rfl, ?_⟩
  cases fu with
  | nil =>
    rw [if_pos rfl] at q
    refine ⟨_, rfl, rfl, _, rfl, iteD (fun c => absurd c h58n) (fun _ => ⟨_, rfl, rfl, _, rfl, iteDN (fun c => absurd (by rw [ofS]; rfl) c) (fun _ => ?_)⟩)⟩
    refine ⟨_, rfl, rfl, _, rfl, iteD (fun _ => ?_) (fun c => absurd (by rw [ofS]; rfl) c)⟩
    refine ⟨_, rfl, Nat.zero_le _, fun p2 hp2 => ⟨(by show 2 ≤ sizeLine; decide), fun p3 hp3 => ?_⟩⟩
    have s2 := same_new (o := .lst []) hp2
    have s3 := same_new (o := .tup [.str (S nm), .ref p2]) hp3
    have h23 : p2 ≠ p3 := ne_of_none upd_same hp3
    refine q (nm, []) rfl p3 p2 [] _ (s1.trans (s2.trans s3)) (Same.free s1 (Same.free s2 hp3)) (Same.free s1 hp2) h23.symm upd_same (by rw [upd_ne h23]; exact upd_same) .nil
  | cons c0 fr =>
    rw [if_neg (by simp)] at q e
    have hzu : (S (c0 :: fr)).length ≤ sizeLine := by rw [S_len]; exact Nat.le_trans hful (Nat.le_trans hl (by decide))
    have hne : ¬ V.str (S (c0 :: fr)) = V.str (Str.ofString "") := fun z => by
      rw [ofS] at z
      have := S_inj (V.str.inj z)
      cases this
    by_cases h32 : c0 = 32
    case neg =>
      rw [if_pos (by simpa using h32)] at e
      refine ⟨_, rfl, rfl, _, rfl, iteD (fun c => absurd c h58n) (fun _ => ⟨_, rfl, rfl, _, rfl, iteDN (fun _ => ⟨_, rfl, _, _, c0, rfl, rfl, hzu, by rw [S_cps]; exact at0, rfl, _, rfl, iteDN (fun _ => e rfl H1 s1) (fun c => absurd (by have h6 := V.str.inj c; rw [S_one, ofS] at h6; have h7 := S_inj h6; simpa [cs] using h7) h32)⟩) (fun c => absurd c hne)⟩)⟩
    subst h32
    rw [if_neg (by simp)] at q e
    refine ⟨_, rfl, rfl, _, rfl, iteD (fun c => absurd c h58n) (fun _ => ⟨_, rfl, rfl, _, rfl, iteDN (fun _ => ⟨_, rfl, _, _, 32, rfl, rfl, hzu, by rw [S_cps]; exact at0, rfl, _, rfl, iteDN (fun c => absurd (by rw [ofS]; rfl) c) (fun _ => ?_)⟩) (fun c => absurd c hne)⟩)⟩
    refine ⟨_, rfl, rfl, _, rfl, iteD (fun c => absurd c hne) (fun _ => ?_)⟩
    refine ⟨_, rfl, _, rfl, _, rfl, _, rfl, hzu, ?_⟩
    have ecut : cutS (S (32 :: fr)) (some 1) none = S fr := cutS_from (32 :: fr) 1
    rw [ecut]
    have hfrl : fr.length ≤ 1000000 := by rw [List.length_cons] at hful; omega
    have hfri : fr <:+: l := (List.suffix_cons 32 fr).isInfix.trans hfi
    refine ⟨⟨_, rfl⟩, _, _, rfl, rfl, rfl, ?_, fun p2 hp2 => ?_⟩
    · rw [S_len]; exact Nat.le_trans (Nat.add_le_add_right hfrl 2) (by decide)
    have esp : Txt.split (S fr) (Str.ofString ", ") = (TL.spl [44, 32] 0 [] fr).map S := by
      rw [ofS, show cs ", " = [44, 32] by decide]
      exact SX.split_S (by simp) (by decide)
    rw [esp]
    have hpl := spl_len (sep := [44, 32]) (r := fr) (k := 0) (cur := [])
    have hpi : ∀ x ∈ TL.spl [44, 32] 0 [] fr, x <:+: fr := split_infix
    have q : ∀ h, (mapO readStep (TL.spl [44, 32] 0 [] fr)).map (fun ss => (nm, ss)) = some h → ∀ (p s : Addr) (xs : List V) (H' : Hp), Same H H' → H p = none → H s = none → p ≠ s → H' p = some (.tup [.str (S h.1), .ref s]) → H' s = some (.lst xs) → DtA (hid s H') xs (h.2.map GS.d) → Q (.ref p) H' := q
    have e : (mapO readStep (TL.spl [44, 32] 0 [] fr)).map (fun ss => (nm, ss)) = none → ∀ H', Same H H' → E (.ref t.C_NoText) none H' := e
    generalize TL.spl [44, 32] 0 [] fr = xs at *
    have s2 := same_new (o := .lst ((xs.map S).map V.str)) hp2
    have e2 : (upd H1 p2 (.lst ((xs.map S).map V.str))) p2 = some (.lst ((xs.map S).map V.str)) := upd_same
    generalize upd H1 p2 (.lst ((xs.map S).map V.str)) = H2 at *
    refine ⟨p2, rfl, ⟨_, SqL.of e2⟩, fun D hD => ?_⟩
    refine lc_it (walk_list (K := K) (a := p2) (xs := (xs.map S).map V.str)) (fun i H' => Same H2 (hid D H') ∧ ∃ (us : List V) (ss : List GS), H' D = some (.lst us) ∧ mapO readStep (xs.take i) = some ss ∧ DtA (hid D H') us (ss.map GS.d))
      ⟨by rw [hid_upd]; exact same_hid hD (Same.refl _), [], [], upd_same, rfl, .nil⟩ (fun i H' _ ⟨p1, _⟩ => SqL.of (hid_le _ _ (p1 _ _ e2))) (fun i x H4 H5 hi ⟨s4, us, ss, e4, hss, d4⟩ y => ?_) (fun H4 ⟨s4, us, ss, e4, hss, d4⟩ => ?_)
    · obtain ⟨eH, hxi⟩ := y
      cases eH
      rw [List.getElem?_map, List.getElem?_map] at hxi
      obtain ⟨x0, hx0, rfl⟩ := Option.map_eq_some_iff.mp hxi
      obtain ⟨x1, hx1, rfl⟩ := Option.map_eq_some_iff.mp hx0
      have hmx := List.mem_of_getElem? hx1
      have hinf := (hpi x1 hmx).trans hfri
      have s04 : Same H H4 := s1.trans (s2.trans (s4.trans hid_le))
      have hal := mapO_len hss
      rw [List.length_take] at hal
      refine ⟨rfl, _, rfl, x1, rfl, Nat.le_trans hinf.length_le hl, hrn.infix hinf, fun ei hei v H6 s6 dv => ?_, fun hno H' s' => e (by rw [mapO_none hmx hno]; rfl) H' (s04.trans s')⟩
      have e6 := s6 _ _ e4
      have hilt : i < xs.length := (List.getElem?_eq_some_iff.mp hx1).1
      refine ⟨us, e6, ?_, ?_, us ++ [v], ss ++ [ei], upd_same, ?_, ?_⟩
      · rw [d4.length, List.length_map, hal]
        refine Nat.lt_of_lt_of_le (m := 1000003) (by omega) (by decide)
      · rw [hid_upd]; exact s4.trans (hid_same s6)
      · rw [List.take_add_one, hx1]
        exact mapO_snoc hss hei
      · rw [hid_upd, List.map_append]
        exact (d4.mono (hid_same s6)).append (.one (gs_hid e6 _ dv))
    · rw [List.length_map, List.length_map, List.take_length] at hss
      refine ⟨(by show 2 ≤ sizeLine; decide), fun p3 hp3 => ?_⟩
      have s5 := same_new (o := .tup [.str (S nm), .ref D]) hp3
      have hD3 : D ≠ p3 := ne_of_none e4 hp3
      have s14 : Same H1 H4 := s2.trans (s4.trans hid_le)
      refine q (nm, ss) (by rw [hss]; rfl) p3 D us _ (s1.trans (s14.trans s5)) (Same.free s1 (Same.free s14 hp3)) (Same.free s1 (Same.free s2 hD)) hD3.symm upd_same (s5 _ _ e4) ?_
      exact d4.mono (hid_same s5)
end K55
namespace K55
open PySem PySem.Spec PyProof.Rows L2 PreX FG
variable {P : Program} {w : World} {K : PySem.W.Frag} {mg : Str → Option Value} {base : Heap}

abbrev RowT := Addr × Addr × List V
/-- helpers read: each a tuple and a list of its own, new since H0 -/
structure Rows (H0 H : Hp) (rs : List RowT) (p : List Helper) : Prop where
  len : rs.length = p.length
  row : ∀ (i : Nat) (r : RowT) (h : Helper), rs[i]? = some r → p[i]? = some h → H0 r.1 = none ∧ H0 r.2.1 = none ∧ H r.1 = some (.tup [.str (S h.1), .ref r.2.1]) ∧ H r.2.1 = some (.lst r.2.2) ∧ DtA H r.2.2 (h.2.map GS.d)
  uniq : (rs.map fun r => r.2.1).Nodup
theorem Rows.nil {H0 H : Hp} : Rows H0 H [] [] := ⟨rfl, fun i r h e => by simp at e, by simp⟩
theorem Rows.mono {H0 H H' : Hp} {rs : List RowT} {p : List Helper} (s : Same H H') (r : Rows H0 H rs p) : Rows H0 H' rs p :=
  ⟨r.len, fun i x h e1 e2 => by
    obtain ⟨h1, h2, h3, h4, h5⟩ := r.row i x h e1 e2
    exact ⟨h1, h2, s _ _ h3, s _ _ h4, h5.mono s⟩, r.uniq⟩
theorem Rows.snoc {H0 H : Hp} {rs : List RowT} {p : List Helper} (r : Rows H0 H rs p) {c s : Addr} {xs : List V} {h : Helper} (h1 : H0 c = none) (h2 : H0 s = none) (h3 : H c = some (.tup [.str (S h.1), .ref s])) (h4 : H s = some (.lst xs))
    (h5 : DtA H xs (h.2.map GS.d)) (h6 : ∀ x ∈ rs, x.2.1 ≠ s) : Rows H0 H (rs ++ [(c, s, xs)]) (p ++ [h]) := by
  refine ⟨by rw [List.length_append, List.length_append, r.len]; rfl, fun i x g e1 e2 => ?_, ?_⟩
  · rcases Nat.lt_or_ge i rs.length with hi | hi
    · rw [List.getElem?_append_left hi] at e1
      rw [List.getElem?_append_left (by rw [← r.len]; exact hi)] at e2
      exact r.row i x g e1 e2
    · rw [List.getElem?_append_right hi] at e1
      rw [List.getElem?_append_right (by rw [← r.len]; exact hi), ← r.len] at e2
      have h0 : i - rs.length = 0 := by
        have := (List.getElem?_eq_some_iff.mp e1).1
        simp at this
        omega
      rw [h0] at e1 e2
      cases e1; cases e2
      exact ⟨h1, h2, h3, h4, h5⟩
  · rw [List.map_append, List.nodup_append]
    refine ⟨r.uniq, by simp, fun a ha b hb => ?_⟩
    obtain ⟨x, hx, rfl⟩ := List.mem_map.mp ha
    simp only [List.map_cons, List.map_nil, List.mem_singleton] at hb
    subst hb
    exact h6 x hx
theorem Rows.get {H0 H : Hp} {rs : List RowT} {p : List Helper} (r : Rows H0 H rs p) {x : RowT} (hx : x ∈ rs) : ∃ h ∈ p, H0 x.1 = none ∧ H0 x.2.1 = none ∧ H x.1 = some (.tup [.str (S h.1), .ref x.2.1]) ∧ H x.2.1 = some (.lst x.2.2) ∧ DtA H x.2.2 (h.2.map GS.d) := by
  obtain ⟨i, hi, e⟩ := List.getElem_of_mem hx
  have hp : i < p.length := by rw [← r.len]; exact hi
  exact ⟨p[i], List.getElem_mem hp, r.row i x p[i] (by rw [List.getElem?_eq_getElem hi, e]) (List.getElem?_eq_getElem hp)⟩
theorem dtA_of {H : Hp} : ∀ {vs : List V} {ds : List PyData}, vs.length = ds.length → (∀ (i : Nat) (v : V) (d : PyData), vs[i]? = some v → ds[i]? = some d → Dt H v d) → DtA H vs ds
  | [], [], _, _ => .nil
  | v :: vs, d :: ds, hl, h => .cons (h 0 v d rfl rfl) (dtA_of (by simpa using hl) fun i a b e1 e2 => h (i + 1) a b (by simpa using e1) (by simpa using e2))
  | [], _ :: _, hl, _ => by simp at hl
  | _ :: _, [], hl, _ => by simp at hl
theorem Rows.dt {H0 H : Hp} {rs : List RowT} {p : List Helper} (r : Rows H0 H rs p) : DtA H (rs.map fun r => V.ref r.1) (p.map FG.hd) := by
  refine dtA_of (by rw [List.length_map, List.length_map, r.len]) fun i v d e1 e2 => ?_
  rw [List.getElem?_map] at e1 e2
  obtain ⟨x, hx, rfl⟩ := Option.map_eq_some_iff.mp e1
  obtain ⟨h, hh, rfl⟩ := Option.map_eq_some_iff.mp e2
  obtain ⟨_, _, h3, h4, h5⟩ := r.row i x h hx hh
  exact .tup h3 (.cons (.str _) (.one (.lst h4 h5)))
theorem shaped_len {t : L} {p : List Helper} (h : readRaw t = some p) (hl : t.length ≤ 99999) : p.length ≤ 100000 := by
  unfold readRaw at h
  split at h
  · cases h; exact Nat.zero_le _
  · have h1 := mapO_len h
    have h2 := spl_len (sep := [59, 32]) (r := t) (k := 0) (cur := [])
    omega
theorem step_plain {t : L} {g : GS} (h : readStep t = some g) : g.plain ∧ ∀ w n e, g = .other w n e → n.length ≤ t.length := by
  obtain ⟨ws, hws, hst⟩ := Option.bind_eq_some_iff.mp h
  unfold stepOf at hst
  split at hst
  · cases hst
    exact ⟨trivial, fun w n e z => by cases z⟩
  · split at hst
    · rename_i a b c _
      unfold step3 at hst
      split at hst
      · obtain ⟨x, hx, hst⟩ := Option.bind_eq_some_iff.mp hst
        obtain ⟨y, hy, rfl⟩ := Option.map_eq_some_iff.mp hst
        exact ⟨trivial, fun w n e z => by cases z⟩
      · split at hst
        · obtain ⟨x, hx, hst⟩ := Option.bind_eq_some_iff.mp hst
          obtain ⟨y, hy, rfl⟩ := Option.map_eq_some_iff.mp hst
          exact ⟨trivial, fun w n e z => by cases z⟩
        · rename_i h1 h2
          obtain ⟨y, hy, rfl⟩ := Option.map_eq_some_iff.mp hst
          refine ⟨⟨h1, h2⟩, fun w n e z => ?_⟩
          cases z
          exact (parted_infix hws b (by simp)).length_le
    · cases hst
theorem helper_ok {t : L} {h : Helper} (e : readHelper t = some h) : h.1.length ≤ t.length ∧ h.2.length ≤ t.length + 1 ∧ ∀ s ∈ h.2, s.plain ∧ ∀ w n x, s = .other w n x → n.length ≤ t.length := by
  unfold readHelper at e
  have ha : (ahead 58 t).length ≤ t.length := (List.takeWhile_prefix _).length_le
  split at e
  · split at e
    · cases e
      exact ⟨ha, Nat.zero_le _, fun s hs => by cases hs⟩
    · split at e
      · cases e
      · obtain ⟨ss, hss, rfl⟩ := Option.map_eq_some_iff.mp e
        have h1 := mapO_len hss
        have h2 := spl_len (sep := [44, 32]) (r := (t.drop ((ahead 58 t).length + 1)).drop 1) (k := 0) (cur := [])
        rw [List.length_drop, List.length_drop] at h2
        refine ⟨ha, by show ss.length ≤ _; omega, fun s hs => ?_⟩
        obtain ⟨i, hi, es⟩ := List.getElem_of_mem hs
        have hlt : i < (TL.spl [44, 32] 0 [] ((t.drop ((ahead 58 t).length + 1)).drop 1)).length := by rw [← h1]; exact hi
        obtain ⟨y, hy, e2⟩ := mapO_get hss (List.getElem?_eq_getElem hlt)
        rw [List.getElem?_eq_getElem hi] at e2
        have : y = s := by rw [← es]; exact (Option.some.inj e2).symm
        subst this
        obtain ⟨h3, h4⟩ := step_plain hy
        refine ⟨h3, fun w n x z => Nat.le_trans (h4 w n x z) ?_⟩
        have h5 := (split_infix _ (List.getElem_mem hlt)).length_le
        rw [List.length_drop, List.length_drop] at h5
        omega
  · cases e
theorem raw_ok {t : L} {p : List Helper} (h : readRaw t = some p) (hl : t.length ≤ 99999) : pOk p := by
  refine ⟨shaped_len h hl, fun x hx => ?_⟩
  unfold readRaw at h
  split at h
  · cases h; cases hx
  · have h1 := mapO_len h
    obtain ⟨i, hi, es⟩ := List.getElem_of_mem hx
    have hlt : i < (TL.spl [59, 32] 0 [] t).length := by rw [← h1]; exact hi
    obtain ⟨y, hy, e2⟩ := mapO_get h (List.getElem?_eq_getElem hlt)
    rw [List.getElem?_eq_getElem hi] at e2
    have : y = x := by rw [← es]; exact (Option.some.inj e2).symm
    subst this
    have h5 := (split_infix _ (List.getElem_mem hlt)).length_le
    obtain ⟨h2, h3, h4⟩ := helper_ok hy
    have hz : t.length ≤ sizeLine := Nat.le_trans hl (by decide)
    refine ⟨by omega, by omega, fun s hs => ⟨(h4 s hs).1, fun w n e z => ?_⟩⟩
    have := (h4 s hs).2 w n e z
    omega
def spRProg (K : PySem.W.Frag) (C : Addr) : Sp := fun vs H Q E => (∃ (t : L), vs = [.str (S t)] ∧ t.length ≤ 1000000 ∧ runs 3999 t ∧ (∀ p, readRaw t = some p → pOk p) ∧
    (∀ p, readProg t = some p → ∀ (a : Addr) (rs : List RowT) (H' : Hp), H a = none → Same H H' → H' a = some (.lst (rs.map fun r => V.ref r.1)) → Rows H (hid a H') rs p → Q (.ref a) H') ∧
    (readProg t = none → ∀ H', Same H H' → E (.ref C) none H')) ∨
  ∃ (v : V) (ty : Value), vs = [v] ∧ TyX K H v ty ∧ PySem.W.kitOne K ty (.type "str") = some false ∧ E (.ref C) none H
theorem ok_read_program (t : T w K mg) : FnOk P w K mg base (L2.CX P w) 11 t.a_read_program t.d_read_program ["text"] (spRProg K t.C_NoText) := by
  refine t.F_read_program.ok sc_read_program (fun vs H Q E h => ?_) (fun cdv A outer s H vs Q E hr h => ?_)
  · rcases h with ⟨l, rfl, _⟩ | ⟨v, d, rfl, _⟩ <;> rfl
  refine ⟨_, (pss_cons (ps_if (pt_not (pt_val (pe_callB (call_isi_k K rfl) (by rfl) t.z_isinstance (by decide +kernel) (pa_cons (pv 0) (pa_cons (pe_bltn (v := .ty "str") (by rfl) t.z_str (by decide +kernel) rfl) pa_nil))))) (pss_one (ps_raise rfl (takes_of rfl rfl rfl rfl) (pmk_own PySem.F.excBase_ValueError t.x_NoText.1 t.g_NoText t.x_NoText.2.1 (raises_own t.x_NoText.2.2.1 t.x_NoText.2.2.2) rfl)))
    pss_nil)
    (pss_cons (ps_set (i := 1) sc_read_program.nd rfl (by first | exact Or.inl rfl | exact Or.inr rfl) (pe_lst pa_nil))
    (pss_cons (ps_if (pt_cmpR op_ne (pv 0) pe_str (by first | exact nomark _ | rfl)) (pss_one (XC.ps_setLcX (i := 1) (own := [("one", 2)]) (g := gName 2) (tt := tYes) rfl rfl (takes_of rfl rfl rfl rfl) rfl sc_read_program.nd rfl rfl (sw_true rfl rfl rfl (by decide +kernel)) (pi_list_k K rfl (pe_split (pv 0) pe_str)) (blkOk_by (own := [("one", 2)]) (N := N_read_program) (sc := defScope s_read_program) (by decide +kernel)) (fun _ _ _ _ _ _ => (pg_name (i := 2) sc_read_program.nd rfl (by first | exact Or.inl rfl | exact Or.inr rfl))) (fun _ _ _ _ _ _ => pts_nil) (fun _ _ _ _ _ _ tkb => (pe_call (ok_read_helper t) (hr.mono (by decide)) rfl t.g_read_helper t.F_read_helper.kp (b_read_helper t) .nil (passes_call tkb fun _ _ _ _ h => h) (pa_cons (pv 2) pa_nil)))))
    pss_nil)
    (pss_cons (ps_if (pt_not (pt_val (pe_call (ok_is_program t) (hr.mono (by decide)) rfl t.g_is_program t.F_is_program.kp (b_is_program t) .nil pass0 (pa_cons (pv 1) pa_nil)))) (pss_one (ps_raise rfl (takes_of rfl rfl rfl rfl) (pmk_own PySem.F.excBase_ValueError t.x_NoText.1 t.g_NoText t.x_NoText.2.1 (raises_own t.x_NoText.2.2.1 t.x_NoText.2.2.2) rfl)))
    pss_nil)
    (pss_one (ps_ret (pv 1))))))), ?_⟩
  rcases h with ⟨l, rfl, hl, hrn, hok, q, e⟩ | ⟨v, ty, rfl, hty, hk, e⟩
  case inr => exact ⟨_, rfl, _, _, _, _, _, rfl, .ty _, hty, hk, _, rfl, iteT e⟩
  have hz : (S l).length ≤ sizeLine := by rw [S_len]; exact Nat.le_trans hl (by decide)
  unfold readProg at q e
  refine ⟨_, rfl, _, _, _, _, _, rfl, .ty _, (Dt.str _).ty, kit_str _, _, rfl, iteF ?_⟩
  refine ⟨Nat.zero_le _, fun p0 hp0 => ?_⟩
  have s0 := same_new (o := .lst []) hp0
  by_cases hl0 : l = []
  · subst hl0
    have hraw : readRaw [] = some [] := rfl
    have hip : isProg [] = true := rfl
    have fin : ∀ (a : Addr) (rs : List RowT) (H' : Hp), H a = none → Same H H' → H' a = some (.lst (rs.map fun r => V.ref r.1)) → Rows H (hid a H') rs [] → ∀ H2, Same H' H2 → Q (.ref a) H2 := fun a rs H' h1 h2 h3 h4 H2 s2 =>
      q [] rfl a rs H2 h1 (h2.trans s2) (s2 _ _ h3) (h4.mono (hid_same s2))
    refine ⟨_, rfl, rfl, _, rfl, iteDN (fun c => absurd (by rw [ofS]; rfl) c) (fun _ => ?_)⟩
    refine ⟨_, rfl, .ref p0, [], rfl, .lst upd_same .nil, hok [] hraw, fun H2 s2 => ⟨_, rfl, ?_⟩⟩
    refine iteF ⟨_, rfl, ?_⟩
    exact fin p0 [] _ hp0 s0 upd_same .nil _ s2
  have er : readRaw l = mapO readHelper (TL.spl [59, 32] 0 [] l) := by unfold readRaw; rw [if_neg hl0]
  rw [er] at q e hok
  have hne : ¬ V.str (S l) = V.str (Str.ofString "") := fun z => by
    rw [ofS] at z
    exact hl0 (S_inj (V.str.inj z))
  refine ⟨_, rfl, rfl, _, rfl, iteDN (fun _ => ?_) (fun c => absurd c hne)⟩
  refine ⟨_, rfl, ⟨_, rfl⟩, _, _, rfl, rfl, rfl, ?_, fun p2 hp2 => ?_⟩
  · rw [S_len]; exact Nat.le_trans (Nat.add_le_add_right hl 2) (by decide)
  have esp : Txt.split (S l) (Str.ofString "; ") = (TL.spl [59, 32] 0 [] l).map S := by
    rw [ofS, show cs "; " = [59, 32] by decide]
    exact SX.split_S (by simp) (by decide)
  rw [esp]
  have hpl := spl_len (sep := [59, 32]) (r := l) (k := 0) (cur := [])
  have hpi : ∀ x ∈ TL.spl [59, 32] 0 [] l, x <:+: l := split_infix
  generalize TL.spl [59, 32] 0 [] l = xs at *
  generalize upd H p0 (.lst []) = H1 at *
  have s2 := same_new (o := .lst ((xs.map S).map V.str)) hp2
  have e2 : (upd H1 p2 (.lst ((xs.map S).map V.str))) p2 = some (.lst ((xs.map S).map V.str)) := upd_same
  generalize upd H1 p2 (.lst ((xs.map S).map V.str)) = H2 at *
  refine ⟨p2, rfl, ⟨_, SqL.of e2⟩, fun D hD => ?_⟩
  have s02 : Same H H2 := s0.trans s2
  refine lc_it (walk_list (K := K) (a := p2) (xs := (xs.map S).map V.str)) (fun i H' => Same H2 (hid D H') ∧ ∃ (rs : List RowT) (p : List Helper), H' D = some (.lst (rs.map fun r => V.ref r.1)) ∧ mapO readHelper (xs.take i) = some p ∧ Rows H (hid D H') rs p)
    ⟨by rw [hid_upd]; exact same_hid hD (Same.refl _), [], [], upd_same, rfl, .nil⟩ (fun i H' _ ⟨p1, _⟩ => SqL.of (hid_le _ _ (p1 _ _ e2))) (fun i x H4 H5 hi ⟨s4, rs, p, e4, hpp, d4⟩ y => ?_) (fun H4 ⟨s4, rs, p, e4, hpp, d4⟩ => ?_)
  · obtain ⟨eH, hxi⟩ := y
    cases eH
    rw [List.getElem?_map, List.getElem?_map] at hxi
    obtain ⟨x0, hx0, rfl⟩ := Option.map_eq_some_iff.mp hxi
    obtain ⟨x1, hx1, rfl⟩ := Option.map_eq_some_iff.mp hx0
    have hmx := List.mem_of_getElem? hx1
    have hinf := hpi x1 hmx
    have hal := mapO_len hpp
    rw [List.length_take] at hal
    have s04 : Same H H4 := s02.trans (s4.trans hid_le)
    refine ⟨rfl, _, rfl, x1, rfl, Nat.le_trans hinf.length_le hl, hrn.infix hinf, fun h hh c sa us H6 s6 hc hs hcs e6 e6s d6 => ?_, fun hno H' s' => e (by rw [mapO_none hmx hno]; rfl) H' (s04.trans s')⟩
    have e6D := s6 _ _ e4
    have hilt : i < xs.length := (List.getElem?_eq_some_iff.mp hx1).1
    have hcD : c ≠ D := fun z => by rw [z, e4] at hc; cases hc
    have hsD : sa ≠ D := fun z => by rw [z, e4] at hs; cases hs
    refine ⟨_, e6D, ?_, ?_, rs ++ [(c, sa, us)], p ++ [h], ?_, ?_, ?_⟩
    · rw [List.length_map, d4.len, hal]
      refine Nat.lt_of_lt_of_le (m := 1000003) (by omega) (by decide)
    · rw [hid_upd]; exact s4.trans (hid_same s6)
    · rw [upd_same, List.map_append]; rfl
    · rw [List.take_add_one, hx1]
      exact mapO_snoc hpp hh
    · rw [hid_upd]
      refine (d4.mono (hid_same s6)).snoc (Same.free s04 hc) (Same.free s04 hs) (by rw [hid_ne hcD]; exact e6) (by rw [hid_ne hsD]; exact e6s) (gsA_hid e6D _ (d6.mono hid_le)) fun x hx z => ?_
      obtain ⟨g, _, _, _, _, h4, _⟩ := d4.get hx
      have := hid_le _ _ h4
      rw [z, hs] at this
      cases this
  · rw [List.length_map, List.length_map, List.take_length] at hpp
    rw [hpp] at q e hok
    have hD0 : H D = none := Same.free s02 hD
    have s04 : Same H H4 := s02.trans (s4.trans hid_le)
    refine ⟨_, rfl, .ref D, p, rfl, .lst e4 (d4.mono hid_le).dt, hok p rfl, fun H6 s6 => ⟨_, rfl, iteBN (fun hip => ?_) (fun hip => ?_)⟩⟩
    · exact e (by show (if isProg p = true then some p else none) = none; rw [hip]; rfl) H6 (s04.trans s6)
    · exact ⟨_, rfl, q p (by show (if isProg p = true then some p else none) = some p; rw [if_pos hip]) D rs H6 hD0 (s04.trans s6) (s6 _ _ e4) (d4.mono (hid_same s6))⟩
end K55
namespace K55
open PySem PySem.Spec PyProof.Rows L2 PreX FG
variable {P : Program} {w : World} {K : PySem.W.Frag} {mg : Str → Option Value} {base : Heap}

/-- plain signs -/
def asc (l : L) : Prop := ∀ c ∈ l, c < 128
theorem asc.sub {l m : L} (h : asc l) (s : m <:+: l) : asc m := fun c hc => h c (s.subset hc)
theorem asc.app {a b : L} (ha : asc a) (hb : asc b) : asc (a ++ b) := fun c hc => (List.mem_append.mp hc).elim (ha c) (hb c)
def spSign : Sp := fun vs H Q _ => ∃ (b : Addr) (n : Nat), vs = [.ref b] ∧ Bag b n H ∧ n ≤ 2 ^ 49 ∧ ∀ (c : Nat) (H' : Hp), c < 128 → SameBut b H H' → Bag b (n + 1) H' → Q (.str (S [c])) H'
theorem ok_law_sign (t : T w K mg) : FnOk P w K mg base CX0 2 t.a_law_sign t.d_law_sign ["bag"] spSign := by
  refine t.F_law_sign.ok sc_law_sign (fun vs H Q E h => ?_) (fun cdv A outer s H vs Q E hr h => ?_)
  · obtain ⟨b, n, rfl, _⟩ := h
    rfl
  obtain ⟨b, n, rfl, hb, hn, q⟩ := h
  refine ⟨_, PSs.nox ((pss_cons (ps_set (i := 1) sc_law_sign.nd rfl (by first | exact Or.inl rfl | exact Or.inr rfl) pe_str)
    (pss_cons (ps_set (i := 1) sc_law_sign.nd rfl (by first | exact Or.inl rfl | exact Or.inr rfl) (pe_op op_add_str (pv 1) pe_str))
    (pss_one (ps_ret (pe_ix ix_str (pv 1) (pe_call (ok_law_draw t) (hr.mono (by decide)) rfl t.g_law_draw t.F_law_draw.kp (b_law_draw t) .nil pass0 (pa_cons (pv 0) (pa_cons pe_int pa_nil))) (fun _ _ => rfl))))))), ?_⟩
  refine ⟨_, rfl, _, _, rfl, rfl, by decide, ?_⟩
  refine ⟨_, rfl, _, rfl, b, 96, n, rfl, by decide, by decide, hb, by omega, fun r H1 r0 r1 s1 b1 => ?_⟩
  have key : ∀ z : Str, z.cps.toList.length = 96 → (∀ c ∈ z.cps.toList, c < 128) → ∃ c, c < 128 ∧ atI z.cps.toList r = some c := fun z hz ha => by
    obtain ⟨k, rfl⟩ : ∃ k : Nat, r = (k : Int) := ⟨r.toNat, by omega⟩
    have hk : k < z.cps.toList.length := by omega
    exact ⟨_, ha _ (List.getElem_mem hk), atI_nat (List.getElem?_eq_getElem hk)⟩
  have fin : ∀ z : Str, z.cps.toList.length = 96 → z.length ≤ sizeLine → (∀ c ∈ z.cps.toList, c < 128) → ∃ (y : Str) (i : Int) (c : Nat), V.str z = V.str y ∧ V.int r = V.int i ∧ y.length ≤ sizeLine ∧ atI y.cps.toList i = some c ∧ Q (.str ⟨#[c]⟩) H1 := fun z h1 h2 h3 => by
    obtain ⟨c, hc, hat⟩ := key z h1 h3
    exact ⟨z, r, c, rfl, rfl, h2, hat, by rw [S_one]; exact q c H1 hc s1 b1⟩
  exact fin _ (by decide +kernel) (by decide +kernel) (by decide +kernel)
end K55
namespace K55
open PySem PySem.Spec PyProof.Rows L2 PreX FG
variable {P : Program} {w : World} {K : PySem.W.Frag} {mg : Str → Option Value} {base : Heap}

/-- how far signs of a kind go on from k -/
def endOf (f : Nat → Bool) (l : L) (k : Nat) : Nat := k + ((l.drop k).takeWhile f).length
theorem endOf_step {f : Nat → Bool} {l : L} {k c : Nat} (h : l[k]? = some c) (hf : f c = true) : endOf f l k = endOf f l (k + 1) := by
  have hk : k < l.length := (List.getElem?_eq_some_iff.mp h).1
  have e : l.drop k = c :: l.drop (k + 1) := by
    rw [List.drop_eq_getElem_cons hk]
    congr 1
    have := List.getElem?_eq_getElem hk
    rw [h] at this
    exact (Option.some.inj this).symm
  unfold endOf
  rw [e, List.takeWhile_cons, if_pos hf, List.length_cons]
  omega
theorem endOf_stop {f : Nat → Bool} {l : L} {k c : Nat} (h : l[k]? = some c) (hf : f c = false) : endOf f l k = k := by
  have hk : k < l.length := (List.getElem?_eq_some_iff.mp h).1
  have e : l.drop k = c :: l.drop (k + 1) := by
    rw [List.drop_eq_getElem_cons hk]
    congr 1
    have := List.getElem?_eq_getElem hk
    rw [h] at this
    exact (Option.some.inj this).symm
  unfold endOf
  rw [e, List.takeWhile_cons, hf]
  rfl
theorem endOf_out {f : Nat → Bool} {l : L} {k : Nat} (h : l.length ≤ k) : endOf f l k = k := by
  unfold endOf
  rw [List.drop_eq_nil_of_le h]; rfl
theorem endOf_le {f : Nat → Bool} {l : L} {k : Nat} (h : k ≤ l.length) : k ≤ endOf f l k ∧ endOf f l k ≤ l.length := by
  unfold endOf
  have := (List.takeWhile_prefix f (l := l.drop k)).length_le
  rw [List.length_drop] at this
  omega
def spLetters : Sp := fun vs H Q _ => ∃ (l : L) (k : Nat), vs = [.str (S l), .int (k : Int)] ∧ l.length ≤ 1000000 ∧ Q (.int (endOf small l k : Nat)) H
theorem ok_law_letters (t : T w K mg) : FnOk P w K mg base CX0 1 t.a_law_letters t.d_law_letters ["text", "at"] spLetters := by
  refine t.F_law_letters.ok sc_law_letters (fun vs H Q E h => ?_) (fun cdv A outer s H vs Q E hr h => ?_)
  · obtain ⟨l, k, rfl, _⟩ := h
    rfl
  obtain ⟨l, k0, rfl, hl, q⟩ := h
  have hz : (S l).length ≤ sizeLine := by rw [S_len]; exact Nat.le_trans hl (by decide)
  refine ⟨_, PSs.nox ((pss_cons (ps_while PassesOwn.never (PW.pt (pw_and (pt_cmpR op_lt (pv 1) (pe_callB call_len_str (by rfl) t.z_len (by decide +kernel) (pa_cons (pv 0) pa_nil)) (by first | exact nomark _ | rfl)) (pw_and1 (pt_cmpR op_in_sign (pe_ix ix_str (pv 0) (pv 1) (fun _ _ => rfl)) pe_str (by first | exact nomark _ | rfl)))))
    (pss_one (ps_set (i := 1) sc_law_letters.nd rfl (by first | exact Or.inl rfl | exact Or.inr rfl) (pe_op op_add (pv 1) pe_int))))
    (pss_one (ps_ret (pv 1))))), ?_⟩
  refine ⟨fun m σ H' => ∃ k : Nat, m = l.length - k ∧ σ = [some (.str (S l)), some (.int (k : Int))] ∧ H' = H ∧ endOf small l k0 = endOf small l k, ⟨_, k0, rfl, rfl, rfl, rfl⟩, ?_⟩
  rintro m σ H' ⟨k, rfl, rfl, rfl, he⟩
  have stop : endOf small l k = k → ∃ x, ([some (V.str (S l)), some (V.int (k : Int))] : L2.St)[1]? = some (some x) ∧ Q x H' := fun e => ⟨_, rfl, by rw [he, e] at q; exact q⟩
  refine ⟨_, rfl, _, rfl, _, rfl, hz, _, _, rfl, rfl, _, rfl, iteD (fun c => ?_) (fun c => ?_)⟩
  · rw [S_len] at c
    have hk : k < l.length := by omega
    have hg := List.getElem?_eq_getElem hk
    refine ⟨_, rfl, _, rfl, _, _, l[k], rfl, rfl, hz, by rw [S_cps]; exact atI_nat hg, _, _, rfl, rfl, _, rfl, ?_⟩
    rw [in_letters]
    refine iteB (fun hs => ?_) (fun hs => ?_)
    · refine ⟨fun σ' H'' => σ' = [some (.str (S l)), some (.int ((k : Int) + 1))] ∧ H'' = H', fun σ' H'' ⟨e1, e2⟩ => ⟨l.length - (k + 1), by omega, k + 1, rfl, e1, e2, he.trans (endOf_step hg hs)⟩, ?_⟩
      exact ⟨_, rfl, _, _, rfl, rfl, rfl, rfl⟩
    · exact stop (endOf_stop hg hs)
  · rw [S_len] at c
    exact stop (endOf_out (by omega))
end K55
namespace K55
open PySem PySem.Spec PyProof.Rows L2 PreX FG
variable {P : Program} {w : World} {K : PySem.W.Frag} {mg : Str → Option Value} {base : Heap}

theorem cutS_one (l : L) (k : Nat) : cutS (S l) (some (k : Int)) (some ((k : Int) + 1)) = S ((l.drop k).take 1) := by
  by_cases h : k ≤ l.length
  · have := cutS_ab l (j := k + 1) h
    rw [show (((k + 1 : Nat)) : Int) = (k : Int) + 1 from rfl] at this
    rw [this, show k + 1 - k = 1 by omega]
  · have e : cutS (S l) (some (k : Int)) (some ((k : Int) + 1)) = S [] := by
      rw [cutS_S]
      congr 1
      have h1 : HT.sIx l.length 0 (some (k : Int)) = l.length := by rw [HT.sIx_nat]; omega
      rw [h1, List.drop_length, List.take_nil]
    rw [e, List.drop_eq_nil_of_le (by omega)]; rfl
/-- what number there is at k -/
theorem numX_at {l : L} {k s : Nat} (hs : (l.drop k).take 1 = [45] ∧ s = 1 ∨ (l.drop k).take 1 ≠ [45] ∧ s = 0) :
    numX (l.drop k) = (if s = 1 then 45 :: (l.drop (k + s)).takeWhile isDig else (l.drop (k + s)).takeWhile isDig) ∧ figs (numX (l.drop k)) = (l.drop (k + s)).takeWhile isDig ∧ (numX (l.drop k)).length = s + ((l.drop (k + s)).takeWhile isDig).length := by
  rcases hs with ⟨h, rfl⟩ | ⟨h, rfl⟩
  · have e : numX (l.drop k) = 45 :: (l.drop (k + 1)).takeWhile isDig := by
      unfold numX
      rw [if_pos h, List.drop_drop]
    rw [e, if_pos rfl]
    refine ⟨rfl, ?_, by rw [List.length_cons]; omega⟩
    unfold figs
    rw [if_pos (show (45 :: (l.drop (k + 1)).takeWhile isDig).take 1 = [45] from rfl)]; rfl
  · have e : numX (l.drop k) = (l.drop k).takeWhile isDig := by
      unfold numX
      rw [if_neg h]
    rw [e, if_neg (by decide), Nat.add_zero]
    refine ⟨rfl, ?_, by omega⟩
    unfold figs
    rw [if_neg]
    intro z
    have : 45 ∈ (l.drop k).takeWhile isDig := List.mem_of_mem_take (i := 1) (by rw [z]; simp)
    have := takeWhile_mem _ this
    revert this; decide
theorem numX_take (r : L) : r.take (numX r).length = numX r := by
  have h := numX_pre r
  generalize numX r = x at *
  calc r.take x.length = (x ++ r.drop x.length).take x.length := by rw [← h]
    _ = x := List.take_left
def spNumR : Sp := fun vs H Q _ => ∃ (l : L) (k : Nat), vs = [.str (S l), .int (k : Int)] ∧ k ≤ l.length ∧ l.length ≤ 1000000 ∧ runs 3999 l ∧ (numR (l.drop k) = none → ∀ H', Same H H' → Q .non H') ∧
  ∀ (i : Int) (r : L), numR (l.drop k) = some (i, r) → ∀ (p : Addr) (H' : Hp), Same H H' → H' p = some (.tup [.int i, .int ((l.length - r.length : Nat) : Int)]) → Q (.ref p) H'
theorem ok_law_number_read (t : T w K mg) : FnOk P w K mg base CX0 1 t.a_law_number_read t.d_law_number_read ["text", "at"] spNumR := by
  refine t.F_law_number_read.ok sc_law_number_read (fun vs H Q E h => ?_) (fun cdv A outer s H vs Q E hr h => ?_)
  · obtain ⟨l, k, rfl, _⟩ := h
    rfl
  obtain ⟨l, k, rfl, hk, hl, hrn, qn, qs⟩ := h
  have hz : (S l).length ≤ sizeLine := by rw [S_len]; exact Nat.le_trans hl (by decide)
  refine ⟨_, PSs.nox ((pss_cons (ps_set (i := 2) sc_law_number_read.nd rfl (by first | exact Or.inl rfl | exact Or.inr rfl) (pe_op op_add (pv 1) (pe_callTy call_int1 (by rfl) t.z_int (by decide +kernel) (pa_cons (pe_cmpR op_eq (pe_slice sl_str (pv 0) (po_some (pv 1)) (po_some (pe_op op_add (pv 1) pe_int))) pe_str (by first | exact nomark _ | rfl)) pa_nil))))
    (pss_cons (ps_set (i := 3) sc_law_number_read.nd rfl (by first | exact Or.inl rfl | exact Or.inr rfl) (pv 2))
    (pss_cons (ps_while PassesOwn.never (PW.pt (pw_and (pt_cmpR op_lt (pv 2) (pe_callB call_len_str (by rfl) t.z_len (by decide +kernel) (pa_cons (pv 0) pa_nil)) (by first | exact nomark _ | rfl)) (pw_and1 (pt_cmpR op_in_sign (pe_ix ix_str (pv 0) (pv 2) (fun _ _ => rfl)) pe_str (by first | exact nomark _ | rfl)))))
    (pss_one (ps_set (i := 2) sc_law_number_read.nd rfl (by first | exact Or.inl rfl | exact Or.inr rfl) (pe_op op_add (pv 2) pe_int))))
    (pss_cons (ps_if (PW.pt (pw_or (pt_cmpR op_eq (pv 2) (pv 3) (by first | exact nomark _ | rfl)) (pw_or1 (PW.pt (pw_and (pt_cmpR op_eq (pe_ix ix_str (pv 0) (pv 3) (fun _ _ => rfl)) pe_str (by first | exact nomark _ | rfl)) (pw_and1 (PW.pt (pw_or (pt_cmpR op_gt (pv 2) (pe_op op_add (pv 3) pe_int) (by first | exact nomark _ | rfl)) (pw_or1 (pt_cmpR op_gt (pv 3) (pv 1) (by first | exact nomark _ | rfl))))))))))) (pss_one (ps_ret pe_non))
    pss_nil)
    (pss_one (ps_ret (pe_tup (pa_cons (pe_callTy (XD.call_int_strD K rfl t.dg) (by rfl) t.z_int (by decide +kernel) (pa_cons (pe_slice sl_str (pv 0) (po_some (pv 1)) (po_some (pv 2))) pa_nil)) (pa_cons (pv 2) pa_nil)))))))))), ?_⟩
  refine ⟨_, rfl, _, rfl, _, rfl, _, rfl, _, rfl, _, _, rfl, rfl, _, rfl, _, rfl, hz, rfl, .inr ⟨_, rfl, _, _, rfl, rfl, ?_⟩⟩
  obtain ⟨sg, hsg, hval⟩ : ∃ s : Nat, ((l.drop k).take 1 = [45] ∧ s = 1 ∨ (l.drop k).take 1 ≠ [45] ∧ s = 0) ∧ ((k : Int) + (if decide (V.str (cutS (S l) (some (k : Int)) (some ((k : Int) + 1))) = V.str (Str.ofString "-")) = true then 1 else 0)) = ((k + s : Nat) : Int) := by
    rw [cutS_one, ofS]
    by_cases h : (l.drop k).take 1 = [45]
    · refine ⟨1, .inl ⟨h, rfl⟩, ?_⟩
      rw [h, if_pos (decide_eq_true (by rfl))]; rfl
    · refine ⟨0, .inr ⟨h, rfl⟩, ?_⟩
      rw [if_neg]
      · rfl
      · intro z
        exact h (S_inj (V.str.inj (of_decide_eq_true z)))
  obtain ⟨x1, x2, x3⟩ := numX_at hsg
  have hfl : k + sg ≤ l.length := by
    rcases hsg with ⟨h, rfl⟩ | ⟨_, rfl⟩
    · have := congrArg List.length h
      rw [List.length_take, List.length_drop] at this
      simp only [List.length_singleton] at this
      omega
    · exact hk
  dsimp only
  rw [hval]
  generalize hf : k + sg = first at *
  refine ⟨_, rfl, ?_⟩
  have hE := endOf_le (f := isDig) hfl
  have hEd : endOf isDig l first = first + ((l.drop first).takeWhile isDig).length := rfl
  have hj1 : endOf isDig l first ≤ l.length := hE.2
  simp only [gName]
  refine XS.seqR (fun σ Hx => σ = [some (.str (S l)), some (.int (k : Int)), some (.int ((endOf isDig l first : Nat) : Int)), some (.int (first : Int))] ∧ Hx = H) (fun σ Hx hh => ?_) (fun rest => ?_)
  · obtain ⟨rfl, rfl⟩ := hh
    have hal : ((l.drop first).takeWhile isDig).all isDig = true := List.all_eq_true.mpr fun c hc => takeWhile_mem c hc
    have hfd : first ≤ k + 1 ∧ (first > k ↔ sg = 1) := by
      rcases hsg with ⟨_, rfl⟩ | ⟨_, rfl⟩ <;> omega
    have hpre := numX_pre (l.drop k)
    have hdrop : (l.drop first).takeWhile isDig ≠ [] → ∃ d t, (l.drop first).takeWhile isDig = d :: t ∧ l[first]? = some d := fun hne => by
      cases hd : l.drop first with
      | nil => rw [hd] at hne; exact absurd rfl hne
      | cons d u =>
        have hg : l[first]? = some d := by
          have := congrArg (fun z : L => z[0]?) hd
          simpa using this
        cases ht : (d :: u).takeWhile isDig with
        | nil => rw [hd, ht] at hne; exact absurd rfl hne
        | cons e v =>
          rw [List.takeWhile_cons] at ht
          split at ht
          · injection ht with h1 h2
            exact ⟨d, v, by rw [h1], hg⟩
          · cases ht
    have hxl : k + (numX (l.drop k)).length = endOf isDig l first := by rw [x3, hEd]; omega
    have hcut : cutS (S l) (some (k : Int)) (some ((endOf isDig l first : Nat) : Int)) = S (numX (l.drop k)) := by
      rw [cutS_ab l hk, ← hxl, Nat.add_sub_cancel_left]
      rw [numX_take]
    have none1 : readNum (numX (l.drop k)) = none → Q .non Hx := fun e => qn (by unfold numR; rw [e]; rfl) Hx (Same.refl _)
    have succ : ∀ i, readNum (numX (l.drop k)) = some i → ∃ x, ([some (.str (S l)), some (.int (k : Int)), some (.int ((endOf isDig l first : Nat) : Int)), some (.int (first : Int))] : L2.St)[0]? = some (some x) ∧ True := fun _ _ => ⟨_, rfl, trivial⟩
    have num : ((l.drop first).takeWhile isDig) ≠ [] → ¬ (((l.drop first).takeWhile isDig).take 1 = [48] ∧ numX (l.drop k) ≠ [48]) → ∃ i, readNum (numX (l.drop k)) = some i := fun h1 h2 => by
      unfold readNum
      rw [x2, if_neg h1, if_neg (by rw [hal]; simp), if_neg h2]
      exact ⟨_, rfl⟩
    generalize hE2 : endOf isDig l first = E2 at *
    have fin : ∀ i, readNum (numX (l.drop k)) = some i → ∃ (a : Str) (n : Int), [V.str (S (numX (l.drop k)))] = [V.str a] ∧ PySem.intText? a = some n ∧ a.length ≤ 4000 ∧ ∃ x, ([some (.str (S l)), some (.int (k : Int)), some (.int (E2 : Int)), some (.int (first : Int))] : L2.St)[2]? = some (some x) ∧
        (2 ≤ sizeLine ∧ ∀ p, Hx p = none → Q (.ref p) (upd Hx p (.tup [.int n, x]))) := fun i hi => by
      have hsh : (numX (l.drop k)).length ≤ 4000 := num_short hi (hrn.infix (by
        have h1 : numX (l.drop k) <:+: l.drop k := List.IsPrefix.isInfix ⟨_, hpre.symm⟩
        exact h1.trans (List.drop_suffix _ _).isInfix))
      refine ⟨_, i, rfl, readNum_int hi hsh, by rw [S_len]; exact hsh, _, rfl, by decide, fun p hp => ?_⟩
      refine qs i ((l.drop k).drop (numX (l.drop k)).length) (by unfold numR; rw [hi]; rfl) p _ (same_new hp) ?_
      rw [upd_same]
      have : l.length - ((l.drop k).drop (numX (l.drop k)).length).length = E2 := by
        rw [List.length_drop, List.length_drop]; omega
      rw [this]
    refine ⟨_, rfl, _, rfl, rfl, _, rfl, iteD (fun c => iteT ?_) (fun c => ?_)⟩
    · refine none1 ?_
      have hds : (l.drop first).takeWhile isDig = [] := by
        have := V.int.inj c
        exact List.eq_nil_of_length_eq_zero (by omega)
      unfold readNum
      rw [x2, if_pos hds]
    have hne : (l.drop first).takeWhile isDig ≠ [] := fun z => c (by
      rw [z] at hEd
      have : E2 = first := by simpa using hEd
      rw [this])
    obtain ⟨d, u, hdu, hg⟩ := hdrop hne
    have hsucc : ¬ (((l.drop first).takeWhile isDig).take 1 = [48] ∧ numX (l.drop k) ≠ [48]) → _ := fun h => (num hne h).elim fun i hi => fin i hi
    have answer : ¬ (((l.drop first).takeWhile isDig).take 1 = [48] ∧ numX (l.drop k) ≠ [48]) → tRet (tTup (tCons (tCB (fun xs H Q => ∃ a n, xs = [V.str a] ∧ PySem.intText? a = some n ∧ a.length ≤ 4000 ∧ Q (V.int n) H) (tCons (tSl rSlS (tVar 0) (tPart (tVar 1)) (tPart (tVar 2))) tNil)) (tCons (tVar 2) tNil)))
        { nx := fun _ H' => Q V.non H', rt := Q } [some (.str (S l)), some (.int (k : Int)), some (.int (E2 : Int)), some (.int (first : Int))] Hx := fun h => by
      refine ⟨_, rfl, _, rfl, _, rfl, _, rfl, _, rfl, _, rfl, hz, ?_⟩
      rw [hcut]
      exact hsucc h
    refine ⟨_, rfl, _, rfl, _, _, d, rfl, rfl, hz, by rw [S_cps]; exact atI_nat hg, rfl, _, rfl, iteD (fun c0 => ?_) (fun c0 => iteF (answer ?_))⟩
    · have hd48 : d = 48 := by
        have := V.str.inj c0
        rw [S_one, ofS] at this
        have := S_inj this
        simpa [cs] using this
      have h48 : ((l.drop first).takeWhile isDig).take 1 = [48] := by rw [hdu, hd48]; rfl
      have hno : numX (l.drop k) ≠ [48] → readNum (numX (l.drop k)) = none := fun z => by
        unfold readNum
        rw [x2, if_neg hne, if_neg (by rw [hal]; simp), if_pos ⟨h48, z⟩]
      have hlen : (numX (l.drop k)).length = sg + (u.length + 1) := by rw [x3, hdu, List.length_cons]
      refine ⟨_, rfl, _, rfl, _, _, rfl, rfl, _, _, rfl, rfl, _, rfl, iteD (fun c1 => iteT (none1 (hno fun z => ?_))) (fun c1 => ?_)⟩
      · rw [z] at hlen
        rw [hdu, List.length_cons] at hEd
        simp only [List.length_singleton] at hlen
        omega
      refine ⟨_, rfl, _, rfl, _, _, rfl, rfl, _, rfl, iteD (fun c2 => none1 (hno fun z => ?_)) (fun c2 => answer ?_)⟩
      · rw [z] at hlen
        have := hfd.2.mp (by omega)
        simp only [List.length_singleton] at hlen
        omega
      · rintro ⟨_, z⟩
        refine z ?_
        have h0 : sg = 0 := by
          have := fun h => c2 (by have := hfd.2.mpr h; omega)
          omega
        rw [hdu, List.length_cons] at hEd
        have hu : u = [] := List.eq_nil_of_length_eq_zero (by omega)
        rw [x1, h0, if_neg (by decide), hdu, hd48, hu]
    · rintro ⟨z, _⟩
      rw [hdu] at z
      have : d = 48 := by simpa using z
      exact c0 (by rw [this, S_one, ofS]; rfl)
  · refine ⟨fun m σ H' => ∃ j : Nat, m = l.length - j ∧ σ = [some (.str (S l)), some (.int (k : Int)), some (.int (j : Int)), some (.int (first : Int))] ∧ H' = H ∧ endOf isDig l first = endOf isDig l j, ⟨_, first, rfl, rfl, rfl, rfl⟩, ?_⟩
    rintro m σ H' ⟨j, rfl, rfl, rfl, he⟩
    have stop : endOf isDig l j = j → _ := fun e => rest _ _ ⟨by rw [he, e], rfl⟩
    refine ⟨_, rfl, _, rfl, _, rfl, hz, _, _, rfl, rfl, _, rfl, iteD (fun c => ?_) (fun c => ?_)⟩
    · rw [S_len] at c
      have hk : j < l.length := by omega
      have hg := List.getElem?_eq_getElem hk
      refine ⟨_, rfl, _, rfl, _, _, l[j], rfl, rfl, hz, by rw [S_cps]; exact atI_nat hg, _, _, rfl, rfl, _, rfl, ?_⟩
      rw [in_figures]
      refine iteB (fun hs => ?_) (fun hs => stop (endOf_stop hg hs))
      refine ⟨fun σ' H'' => σ' = [some (.str (S l)), some (.int (k : Int)), some (.int ((j : Int) + 1)), some (.int (first : Int))] ∧ H'' = H', fun σ' H'' ⟨e1, e2⟩ => ⟨l.length - (j + 1), by omega, j + 1, rfl, e1, e2, he.trans (endOf_step hg hs)⟩, ?_⟩
      exact ⟨_, rfl, _, _, rfl, rfl, rfl, rfl⟩
    · rw [S_len] at c
      exact stop (endOf_out (by omega))
end K55
namespace K55
open PySem PySem.Spec PyProof.Rows L2 PreX FG
variable {P : Program} {w : World} {K : PySem.W.Frag} {mg : Str → Option Value} {base : Heap}

/-- what is left behind a part of the text, by its place -/
theorem left_at {l x r : L} {k : Nat} (hk : k ≤ l.length) (h : l.drop k = x ++ r) : l.drop (l.length - r.length) = r ∧ l.length - r.length = k + x.length ∧ l.length - r.length ≤ l.length := by
  have hl := congrArg List.length h
  rw [List.length_drop, List.length_append] at hl
  have e : l.length - r.length = k + x.length := by omega
  refine ⟨?_, e, by omega⟩
  rw [e, ← List.drop_drop, h, List.drop_left]
theorem cutS_seg (l : L) (k j : Nat) : cutS (S l) (some (k : Int)) (some (((k + j : Nat)) : Int)) = S ((l.drop k).take j) := by
  by_cases h : k ≤ l.length
  · rw [cutS_ab l h, Nat.add_sub_cancel_left]
  · have e : cutS (S l) (some (k : Int)) (some (((k + j : Nat)) : Int)) = S [] := by
      rw [cutS_S]
      congr 1
      have h1 : HT.sIx l.length 0 (some (k : Int)) = l.length := by rw [HT.sIx_nat]; omega
      rw [h1, List.drop_length, List.take_nil]
    rw [e, List.drop_eq_nil_of_le (by omega), List.take_nil]
def spExprR (n : Nat) : Sp := fun vs H Q _ => ∃ (l : L) (k m : Nat), vs = [.str (S l), .int (k : Int), .int (m : Int)] ∧ m < n ∧ k ≤ l.length ∧ l.length ≤ 1000000 ∧ runs 3999 l ∧ (exprR m (l.drop k) = none → ∀ H', Same H H' → Q .non H') ∧
  ∀ (e : GE) (r : L), exprR m (l.drop k) = some (e, r) → ∀ (v : V) (p : Addr) (H' : Hp), Same H H' → Dt H' v e.d → H' p = some (.tup [v, .int ((l.length - r.length : Nat) : Int)]) → Q (.ref p) H'
theorem ok_law_expression_read_n (t : T w K mg) {n : Nat} (G : FnOk P w K mg base CX0 (n + 2) t.a_law_expression_read t.d_law_expression_read ["text", "at", "most"] (spExprR n)) :
    FnOk P w K mg base CX0 (n + 3) t.a_law_expression_read t.d_law_expression_read ["text", "at", "most"] (spExprR (n + 1)) := by
  refine t.F_law_expression_read.ok sc_law_expression_read (fun vs H Q E h => ?_) (fun cdv A outer s H vs Q E hr h => ?_)
  · obtain ⟨l, k, m, rfl, _⟩ := h
    rfl
  obtain ⟨l, k, m, rfl, hm, hk, hl, hrn, qn, qs⟩ := h
  have hz : (S l).length ≤ sizeLine := by rw [S_len]; exact Nat.le_trans hl (by decide)
  refine ⟨_, PSs.nox ((pss_cons (ps_if (pt_cmpR op_eq (pv 2) pe_int (by first | exact nomark _ | rfl)) (pss_one (ps_ret pe_non))
    pss_nil)
    (pss_cons (ps_if (pt_cmpR op_eq (pe_slice sl_str (pv 0) (po_some (pv 1)) (po_some (pe_op op_add (pv 1) pe_int))) pe_str (by first | exact nomark _ | rfl)) (pss_one (ps_ret (pe_tup (pa_cons (pe_tup (pa_cons pe_str pa_nil)) (pa_cons (pe_op op_add (pv 1) pe_int) pa_nil)))))
    pss_nil)
    (pss_cons (ps_for PassesOwn.never rfl (pi_list_k K rfl (pe_lst (pa_cons (pe_tup (pa_cons pe_str (pa_cons pe_int pa_nil))) (pa_cons (pe_tup (pa_cons pe_str (pa_cons pe_int pa_nil))) (pa_cons (pe_tup (pa_cons pe_str (pa_cons pe_int pa_nil))) (pa_cons (pe_tup (pa_cons pe_str (pa_cons pe_int pa_nil))) pa_nil)))))) (pg_tup rfl (pgs_cons (pg_name (i := 3) sc_law_expression_read.nd rfl (by first | exact Or.inl rfl | exact Or.inr rfl)) (pgs_cons (pg_name (i := 4) sc_law_expression_read.nd rfl (by first | exact Or.inl rfl | exact Or.inr rfl)) pgs_nil)))
    (pss_one (ps_if (pt_cmpR op_eq (pe_slice sl_str (pv 0) (po_some (pv 1)) (po_some (pe_op op_add (pe_op op_add (pv 1) (pe_callB call_len_str (by rfl) t.z_len (by decide +kernel) (pa_cons (pv 3) pa_nil))) pe_int))) (pe_op op_add_str (pv 3) pe_str) (by first | exact nomark _ | rfl)) (pss_cons (ps_set (i := 5) sc_law_expression_read.nd rfl (by first | exact Or.inl rfl | exact Or.inr rfl) (pe_lst (pa_cons (pv 3) pa_nil)))
    (pss_cons (ps_set (i := 6) sc_law_expression_read.nd rfl (by first | exact Or.inl rfl | exact Or.inr rfl) (pe_op op_add (pe_op op_add (pv 1) (pe_callB call_len_str (by rfl) t.z_len (by decide +kernel) (pa_cons (pv 3) pa_nil))) pe_int))
    (pss_cons (ps_for PassesOwn.never rfl (pi_range1 (by rfl) t.z_range (pa_cons (pv 4) pa_nil)) (pg_name (i := 7) sc_law_expression_read.nd rfl (by first | exact Or.inl rfl | exact Or.inr rfl))
    (pss_cons (ps_if (PW.pt (pw_and (pt_cmpR op_eq (pv 7) pe_int (by first | exact nomark _ | rfl)) (pw_and1 (pt_cmpR op_ne (pe_slice sl_str (pv 0) (po_some (pv 6)) (po_some (pe_op op_add (pv 6) pe_int))) pe_str (by first | exact nomark _ | rfl))))) (pss_one (ps_ret pe_non))
    pss_nil)
    (pss_cons (ps_set (i := 8) sc_law_expression_read.nd rfl (by first | exact Or.inl rfl | exact Or.inr rfl) (pe_call G (hr.mono (by omega)) rfl t.g_law_expression_read t.F_law_expression_read.kp (b_law_expression_read t) .nil pass0 (pa_cons (pv 0) (pa_cons (pe_op op_add (pv 6) (pe_callTy call_int1 (by rfl) t.z_int (by decide +kernel) (pa_cons (pe_cmpR op_eq (pv 7) pe_int (by first | exact nomark _ | rfl)) pa_nil))) (pa_cons (pe_op op_sub (pv 2) pe_int) pa_nil)))))
    (pss_cons (ps_if (pt_cmpR op_isN (pv 8) pe_non (by first | exact nomark _ | rfl)) (pss_one (ps_ret pe_non))
    pss_nil)
    (pss_cons (ps_expr (pe_bm PySem.F.plainAttrs_list PySem.F.slot_list_append PySem.F.type_list_append mt_append (pv 5) (pa_cons (pe_ix (ix_tup_k K rfl) (pv 8) pe_int (fun _ _ => rfl)) pa_nil)))
    (pss_one (ps_set (i := 6) sc_law_expression_read.nd rfl (by first | exact Or.inl rfl | exact Or.inr rfl) (pe_ix (ix_tup_k K rfl) (pv 8) pe_int (fun _ _ => rfl)))))))))
    (pss_one (ps_ret (pe_ifExp (pt_cmpR op_eq (pe_slice sl_str (pv 0) (po_some (pv 6)) (po_some (pe_op op_add (pv 6) pe_int))) pe_str (by first | exact nomark _ | rfl)) (pe_tup (pa_cons (pe_callTy (call_tuple_of_k K rfl) (by rfl) t.z_tuple (by decide +kernel) (pa_cons (pv 5) pa_nil)) (pa_cons (pe_op op_add (pv 6) pe_int) pa_nil))) pe_non))))))
    pss_nil)))
    (pss_one (ps_ret (pe_call (ok_law_number_read t) (hr.mono (by omega)) rfl t.g_law_number_read t.F_law_number_read.kp (b_law_number_read t) .nil pass0 (pa_cons (pv 0) (pa_cons (pv 1) pa_nil))))))))), ?_⟩
  refine ⟨_, rfl, rfl, _, rfl, iteD (fun c => ?_) (fun c => ?_)⟩
  · have : m = 0 := by have := V.int.inj c; omega
    subst this
    exact qn rfl H (Same.refl _)
  obtain ⟨m, rfl⟩ : ∃ j, m = j + 1 := ⟨m - 1, by
    have : m ≠ 0 := fun z => c (by rw [z]; rfl)
    omega⟩
  rw [exprR] at qn qs
  refine ⟨_, rfl, _, rfl, _, rfl, _, rfl, _, _, rfl, rfl, _, rfl, _, rfl, hz, rfl, _, rfl, ?_⟩
  rw [show cutS (S l) (some (k : Int)) (some ((k : Int) + 3)) = S ((l.drop k).take 3) from cutS_seg l k 3]
  refine iteD (fun c2 => ?_) (fun c2 => ?_)
  · have c3 : (l.drop k).take 3 = wArg := S_inj (by rw [V.str.inj c2, ofS]; rfl)
    rw [if_pos c3] at qs
    refine ⟨(by show 1 ≤ sizeLine; decide), fun p1 hp1 => ?_⟩
    have s1 := same_new (o := .tup [.str (Str.ofString "arg")]) hp1
    have e1 : (upd H p1 (.tup [.str (Str.ofString "arg")])) p1 = some (.tup [.str (Str.ofString "arg")]) := upd_same
    generalize upd H p1 (.tup [.str (Str.ofString "arg")]) = H1 at *
    refine ⟨_, rfl, _, _, rfl, rfl, (by show 2 ≤ sizeLine; decide), fun p2 hp2 => ?_⟩
    have s2 := same_new (o := .tup [.ref p1, .int ((k : Int) + 3)]) hp2
    refine qs (.node wArg []) _ rfl (.ref p1) p2 _ (s1.trans s2) (.tup (s2 _ _ e1) ?_) ?_
    · rw [ofS]; exact .cons (.str _) .nil
    · rw [upd_same]
      obtain ⟨_, g2, _⟩ := left_at hk (take_pre (w := wArg) c3)
      have g2 : l.length - ((l.drop k).drop 3).length = k + 3 := g2
      rw [g2]; rfl
  have c3 : ¬ (l.drop k).take 3 = wArg := fun z => c2 (by rw [z, ofS]; rfl)
  rw [if_neg c3] at qn qs
  refine ⟨(by show 2 ≤ sizeLine; decide), fun a1 h1 => ⟨(by show 2 ≤ sizeLine; decide), fun a2 h2 => ⟨(by show 2 ≤ sizeLine; decide), fun a3 h3 => ⟨(by show 2 ≤ sizeLine; decide), fun a4 h4 => ⟨(by show 4 ≤ sizeLine; decide), fun pl h5 => ?_⟩⟩⟩⟩⟩
  obtain ⟨H1, eH1⟩ : ∃ H1, H1 = upd (upd (upd (upd (upd H a1 (.tup [.str (Str.ofString "cell"), .int 1])) a2 (.tup [.str (Str.ofString "add"), .int 2])) a3 (.tup [.str (Str.ofString "less"), .int 2])) a4 (.tup [.str (Str.ofString "least"), .int 2])) pl (.lst [.ref a1, .ref a2, .ref a3, .ref a4]) := ⟨_, rfl⟩
  rw [← eH1]
  have t1 := same_new (o := .tup [.str (Str.ofString "cell"), .int 1]) h1
  have t2 := same_new (o := .tup [.str (Str.ofString "add"), .int 2]) h2
  have t3 := same_new (o := .tup [.str (Str.ofString "less"), .int 2]) h3
  have t4 := same_new (o := .tup [.str (Str.ofString "least"), .int 2]) h4
  have t5 := same_new (o := .lst [.ref a1, .ref a2, .ref a3, .ref a4]) h5
  have s1 : Same H H1 := by rw [eH1]; exact t1.trans (t2.trans (t3.trans (t4.trans t5)))
  have epl : H1 pl = some (.lst ([a1, a2, a3, a4].map V.ref)) := by rw [eH1]; exact upd_same
  have erow : ∀ (i : Nat) (a : Addr), [a1, a2, a3, a4][i]? = some a → ∃ (wd : L) (n : Nat), wordsR[i]? = some (wd, n) ∧ H1 a = some (.tup [.str (S wd), .int (n : Int)]) := fun i a hi => by
    have i4 : i < 4 := (List.getElem?_eq_some_iff.mp hi).1
    have c : i = 0 ∨ i = 1 ∨ i = 2 ∨ i = 3 := by omega
    rw [eH1]
    rcases c with rfl | rfl | rfl | rfl <;> cases hi
    · exact ⟨wCell, 1, rfl, by rw [show S wCell = Str.ofString "cell" from (ofS _).symm]; exact t5 _ _ (t4 _ _ (t3 _ _ (t2 _ _ upd_same)))⟩
    · exact ⟨wAdd, 2, rfl, by rw [show S wAdd = Str.ofString "add" from (ofS _).symm]; exact t5 _ _ (t4 _ _ (t3 _ _ upd_same))⟩
    · exact ⟨wLess, 2, rfl, by rw [show S wLess = Str.ofString "less" from (ofS _).symm]; exact t5 _ _ (t4 _ _ upd_same)⟩
    · exact ⟨wLeast, 2, rfl, by rw [show S wLeast = Str.ofString "least" from (ofS _).symm]; exact t5 _ _ upd_same⟩
  clear eH1 t1 t2 t3 t4 t5
  have qn : pickR (exprR m) (l.drop k) wordsR = none → ∀ H', Same H H' → Q .non H' := qn
  have qs : ∀ (e : GE) (r : L), pickR (exprR m) (l.drop k) wordsR = some (e, r) → ∀ (v : V) (p : Addr) (H' : Hp), Same H H' → Dt H' v e.d → H' p = some (.tup [v, .int ((l.length - r.length : Nat) : Int)]) → Q (.ref p) H' := qs
  refine ⟨pl, rfl, ⟨_, SqL.of epl⟩, ?_⟩
  refine for_it (walk_list (K := K) (a := pl) (xs := [a1, a2, a3, a4].map V.ref)) (fun i σ H' => Same H1 H' ∧ ∃ v3 v4 v5 v6 v7 v8 : Option V, σ = [some (.str (S l)), some (.int (k : Int)), some (.int ((m + 1 : Nat) : Int)), v3, v4, v5, v6, v7, v8] ∧ pickR (exprR m) (l.drop k) wordsR = pickR (exprR m) (l.drop k) (wordsR.drop i))
    ⟨Same.refl _, _, _, _, _, _, _, rfl, rfl⟩ (fun i σ H' _ ⟨p1, _⟩ => SqL.of (p1 _ _ epl)) (fun i x σ H2 H3 hi ⟨s2, v3, v4, v5, v6, v7, v8, hσ, hp⟩ y => ?_) (fun σ H2 ⟨s2, v3, v4, v5, v6, v7, v8, hσ, hp⟩ => ?_)
  · subst hσ
    obtain ⟨eH, hxi⟩ := y
    cases eH
    rw [List.getElem?_map] at hxi
    obtain ⟨a, hai, rfl⟩ := Option.map_eq_some_iff.mp hxi
    obtain ⟨wd, nn, hw, ea⟩ := erow i a hai
    refine ⟨a, _, rfl, SqT.of (s2 _ _ ea), rfl, _, _, rfl, _, _, rfl, rfl, ?_⟩
    have hwm : (wd, nn) ∈ wordsR := List.mem_of_getElem? hw
    obtain ⟨w1, w2, w3, _⟩ := words_R _ hwm
    have hwl : wd.length ≤ 5 := by
      have : ∀ x ∈ wordsR, x.1.length ≤ 5 := by decide
      exact this _ hwm
    have hn2 : 1 ≤ nn ∧ nn ≤ 2 := by
      have : ∀ x ∈ wordsR, 1 ≤ x.2 ∧ x.2 ≤ 2 := by decide
      exact this _ hwm
    have hwz : (S wd).length ≤ sizeLine := by rw [S_len]; exact Nat.le_trans hwl (by decide)
    have edr : wordsR.drop i = (wd, nn) :: wordsR.drop (i + 1) := by
      have hil : i < wordsR.length := (List.getElem?_eq_some_iff.mp hw).1
      rw [List.drop_eq_getElem_cons hil]
      congr 1
      have := List.getElem?_eq_getElem hil
      rw [hw] at this
      exact (Option.some.inj this).symm
    rw [edr, pickR] at hp
    refine ⟨_, rfl, _, rfl, _, rfl, _, rfl, _, rfl, _, rfl, hwz, _, _, rfl, rfl, _, _, rfl, rfl, _, rfl, _, rfl, hz, ?_⟩
    rw [show cutS (S l) (some (k : Int)) (some ((k : Int) + ((S wd).length : Int) + 1)) = S ((l.drop k).take (wd.length + 1)) by
      have := cutS_seg l k (wd.length + 1)
      rw [S_len]
      rw [show (((k + (wd.length + 1) : Nat)) : Int) = (k : Int) + (wd.length : Int) + 1 by omega] at this
      exact this]
    refine ⟨_, rfl, _, _, rfl, rfl, ?_, rfl, _, rfl, ?_⟩
    · rw [S_len]; exact Nat.le_trans (m := 6) (by show wd.length + 1 ≤ 6; omega) (by decide)
    have e91 : S wd ++ Str.ofString "[" = S (wd ++ [91]) := by rw [ofS, S_app]; rfl
    refine iteD (fun c4 => ?_) (fun c4 => ?_)
    · have c4 : (l.drop k).take (wd.length + 1) = wd ++ [91] := S_inj ((V.str.inj c4).trans e91)
      rw [if_pos c4] at hp
      obtain ⟨e0, he0⟩ : ∃ e0 : Nat, e0 = k + (wd.length + 1) := ⟨_, rfl⟩
      have hdd : (l.drop k).drop (wd.length + 1) = l.drop e0 := by rw [List.drop_drop, he0]
      have hle0 : e0 ≤ l.length := by
        have := congrArg List.length c4
        rw [List.length_take, List.length_drop, List.length_append, List.length_singleton] at this
        omega
      unfold nodeR at hp
      rw [hdd] at hp
      refine ⟨_, rfl, (by show 1 ≤ sizeLine; decide), fun pp hpp => ?_⟩
      refine ⟨_, rfl, _, rfl, _, rfl, hwz, _, _, rfl, rfl, _, _, rfl, rfl, ?_⟩
      dsimp only
      rw [show V.int ((k : Int) + ((S wd).length : Int) + 1) = V.int (e0 : Int) by rw [S_len, he0]; congr 1]
      refine ⟨_, rfl, _, rfl, by omega, by omega, ?_⟩
      rw [Int.toNat_natCast]
      refine for_it walk_range (fun j σ H' => Same H2 (hid pp H') ∧ ∃ (v7 v8 : Option V) (us : List V) (as : List GE) (en : Nat), σ = [some (.str (S l)), some (.int (k : Int)), some (.int ((m + 1 : Nat) : Int)), some (.str (S wd)), some (.int (nn : Int)), some (.ref pp), some (.int (en : Int)), v7, v8] ∧
          H' pp = some (.lst (.str (S wd) :: us)) ∧ DtA (hid pp H') us (as.map GE.d) ∧ as.length = j ∧ en ≤ l.length ∧ argsR (exprR m) nn true (l.drop e0) = (argsR (exprR m) (nn - j) (decide (j = 0)) (l.drop en)).map fun x => (as ++ x.1, x.2))
        ⟨by rw [hid_upd]; exact same_hid hpp (Same.refl _), _, _, [], [], e0, rfl, upd_same, .nil, rfl, hle0, by
          show _ = (argsR (exprR m) nn true (l.drop e0)).map _
          cases argsR (exprR m) nn true (l.drop e0) <;> rfl⟩ (fun _ _ _ _ _ => trivial) (fun j x σ H3 H4 hj ⟨s3, v7', v8', us, as, en, hσ, e3, d3, la, hen, hargs⟩ y => ?_) (fun σ H3 ⟨s3, v7', v8', us, as, en, hσ, e3, d3, la, hen, hargs⟩ => ?_)
      · subst hσ
        obtain ⟨eH, rfl⟩ := yfn0 y
        cases eH
        simp only [gName]
        have s13 : Same H H3 := s1.trans (s2.trans (s3.trans hid_le))
        have fail : argsR (exprR m) (nn - j) (decide (j = 0)) (l.drop en) = none → Q .non H3 := fun z => qn (by rw [hp, hargs, z]; rfl) H3 s13
        obtain ⟨qq, hqq⟩ : ∃ qq, nn - j = qq + 1 := ⟨nn - j - 1, by omega⟩
        rw [hqq, argsR] at hargs fail
        refine XS.seqR (fun σ Hx => σ = [some (.str (S l)), some (.int (k : Int)), some (.int ((m + 1 : Nat) : Int)), some (.str (S wd)), some (.int (nn : Int)), some (.ref pp), some (.int (en : Int)), some (.int (j : Int)), v8'] ∧ Hx = H3 ∧ (j = 1 → (l.drop en).take 1 = [32])) (fun σ Hx hh => ?_) (fun rest => ?_)
        · obtain ⟨rfl, rfl, h32⟩ := hh
          have hj2 : j = 0 ∨ j = 1 := by omega
          obtain ⟨en', hen', hle', hdr'⟩ : ∃ en' : Nat, ((en : Int) + (if decide (V.int (j : Int) = V.int 1) = true then 1 else 0)) = (en' : Int) ∧ en' ≤ l.length ∧ l.drop en' = (if decide (j = 0) = true then l.drop en else (l.drop en).drop 1) := by
            rcases hj2 with rfl | rfl
            · exact ⟨en, by rfl, hen, by rfl⟩
            · have h1 := congrArg List.length (h32 rfl)
              rw [List.length_take, List.length_drop, List.length_singleton] at h1
              refine ⟨en + 1, by rfl, by omega, ?_⟩
              show l.drop (en + 1) = (l.drop en).drop 1
              rw [List.drop_drop]
          have hno32 : ¬ (decide (j = 0) = false ∧ (l.drop en).take 1 ≠ [32]) := by
            rintro ⟨z1, z2⟩
            rcases hj2 with rfl | rfl
            · cases z1
            · exact z2 (h32 rfl)
          rw [if_neg hno32, ← hdr'] at hargs fail
          refine ⟨_, rfl, _, rfl, _, rfl, rfl, .inr ⟨_, rfl, _, _, rfl, rfl, _, rfl, _, _, rfl, rfl, l, en', m, ?_, by omega, hle', hl, hrn, fun hno H' s' => ?_, fun e r hr v p H' s' dv ep => ?_⟩⟩
          · have : (((m + 1 : Nat)) : Int) - 1 = (m : Int) := by omega
            show [V.str (S l), V.int ((en : Int) + (if decide (V.int (j : Int) = V.int 1) = true then 1 else 0)), V.int ((((m + 1 : Nat)) : Int) - 1)] = _
            rw [hen', this]
          · refine ⟨_, rfl, rfl, _, rfl, iteD (fun _ => ?_) (fun z => absurd rfl z)⟩
            have hnn : pickR (exprR m) (l.drop k) wordsR = none := by
              rw [hp, hargs, hno]; rfl
            exact qn hnn H' (s13.trans s')
          · rw [hr] at hargs
            obtain ⟨hsd, hok⟩ := exprR_sound m _ _ _ hr
            obtain ⟨g1, g2, g3⟩ := left_at hle' hsd
            have e3' := s' _ _ e3
            refine ⟨_, rfl, rfl, _, rfl, iteD (fun z => by cases z) (fun _ => ?_)⟩
            refine ⟨_, rfl, .inl ⟨rfl, _, SqL.of e3'⟩, _, rfl, p, _, _, v, rfl, rfl, SqT.of ep, at0, pp, _, _, rfl, rfl, e3', ?_, ?_⟩
            · have hu := d3.length
              rw [List.length_map, la] at hu
              rw [List.length_cons]
              exact small1000 (by omega)
            have hppp : p ≠ pp := fun z => by rw [z, e3'] at ep; cases ep
            refine ⟨_, rfl, p, _, _, _, rfl, rfl, SqT.of (by rw [upd_ne hppp]; exact ep), at1, ?_⟩
            refine ⟨?_, _, _, us ++ [v], as ++ [e], l.length - r.length, rfl, ?_, ?_, ?_, g3, ?_⟩
            · rw [hid_upd]; exact s3.trans (hid_same s')
            · rw [upd_same]; rfl
            · rw [hid_upd, List.map_append]
              exact (d3.mono (hid_same s')).append (.one (ge_hid e3' _ dv))
            · rw [List.length_append, la]; rfl
            · rw [hargs, g1]
              have hq2 : nn - (j + 1) = qq := by omega
              rw [hq2, show decide (j + 1 = 0) = false by simp]
              have key : ∀ o : Option (List GE × L), Option.map (fun x => (as ++ x.1, x.2)) (match o with | none => none | some (as', r2) => some (e :: as', r2)) = Option.map (fun x => (as ++ [e] ++ x.1, x.2)) o := fun o => by
                cases o with
                | none => rfl
                | some z => obtain ⟨z1, z2⟩ := z; simp
              exact key _
        · have e32 : (V.str (cutS (S l) (some (en : Int)) (some ((en : Int) + 1))) = V.str (Str.ofString " ")) ↔ (l.drop en).take 1 = [32] := by
            rw [cutS_one, ofS]
            constructor
            · intro z; exact S_inj (V.str.inj z)
            · intro z; rw [z]; rfl
          refine ⟨_, rfl, rfl, _, rfl, iteD (fun cj => ?_) (fun cj => iteF (rest _ _ ⟨rfl, rfl, fun z => absurd (by rw [z]; rfl) cj⟩))⟩
          have hj1 : j = 1 := by have := V.int.inj cj; omega
          refine ⟨_, rfl, _, rfl, _, rfl, _, rfl, _, _, rfl, rfl, _, rfl, _, rfl, hz, rfl, _, rfl, iteDN (fun c => ?_) (fun c => rest _ _ ⟨rfl, rfl, fun _ => e32.mp c⟩)⟩
          refine fail ?_
          rw [if_pos ⟨by rw [hj1]; rfl, fun z => c (e32.mpr z)⟩]
      · subst hσ
        have hargs : argsR (exprR m) nn true (l.drop e0) = some (as, l.drop en) := by
          rw [hargs, Nat.sub_self, argsR]
          simp
        rw [hargs] at hp
        have hp : pickR (exprR m) (l.drop k) wordsR = if (l.drop en).take 1 = [93] then some (GE.node wd as, (l.drop en).drop 1) else none := hp
        have s13 : Same H H3 := s1.trans (s2.trans (s3.trans hid_le))
        refine ⟨_, rfl, _, rfl, _, rfl, _, rfl, _, _, rfl, rfl, _, rfl, _, rfl, hz, rfl, _, rfl, ?_⟩
        rw [cutS_one, ofS]
        refine iteD (fun c93 => ?_) (fun c93 => ?_)
        · have c93 : (l.drop en).take 1 = [93] := S_inj (V.str.inj c93)
          rw [if_pos c93] at hp
          have hen2 : en < l.length := by
            have := congrArg List.length c93
            rw [List.length_take, List.length_drop, List.length_singleton] at this
            omega
          refine ⟨_, rfl, pp, _, rfl, .inl ⟨SqL.of e3, fun tl htl => ?_⟩⟩
          have s4 := same_new (o := .tup (.str (S wd) :: us)) htl
          refine ⟨_, rfl, _, _, rfl, rfl, (by show 2 ≤ sizeLine; decide), fun p2 hp2 => ?_⟩
          have s5 := same_new (o := .tup [.ref tl, .int ((en : Int) + 1)]) hp2
          refine qs (.node wd as) _ hp (.ref tl) p2 _ (s13.trans (s4.trans s5)) (.tup (s5 _ _ upd_same) ?_) ?_
          · rw [GE.ds_map]
            exact .cons (.str _) ((d3.mono hid_le).mono (s4.trans s5))
          · rw [upd_same, List.drop_drop, List.length_drop]
            have : l.length - (l.length - (en + 1)) = en + 1 := by omega
            rw [this]; rfl
        · have c93 : ¬ (l.drop en).take 1 = [93] := fun z => c93 (by rw [z]; rfl)
          rw [if_neg c93] at hp
          exact qn hp _ s13
    · rw [if_neg (fun z => c4 (by rw [z]; exact congrArg V.str e91.symm))] at hp
      exact ⟨s2, _, _, _, _, _, _, rfl, hp⟩
  · subst hσ
    have hp : pickR (exprR m) (l.drop k) wordsR = (numR (l.drop k)).map fun x => (GE.num x.1, x.2) := hp
    refine ⟨_, rfl, _, rfl, l, k, rfl, hk, hl, hrn, fun hno H' s' => qn (by rw [hp, hno]; rfl) H' (s1.trans (s2.trans s')), fun j r hj p H' s' e' => ?_⟩
    exact qs (.num j) r (by rw [hp, hj]; rfl) (.int j) p H' (s1.trans (s2.trans s')) (.int j) e'
theorem ok_law_expression_read_all (t : T w K mg) : ∀ n : Nat, FnOk P w K mg base CX0 (n + 2) t.a_law_expression_read t.d_law_expression_read ["text", "at", "most"] (spExprR n)
  | 0 => none_sp fun vs H Q E h => by
    obtain ⟨l, k, m, _, hm, _⟩ := h
    omega
  | n + 1 => ok_law_expression_read_n t (ok_law_expression_read_all t n)
theorem ok_law_expression_read (t : T w K mg) : FnOk P w K mg base CX0 8 t.a_law_expression_read t.d_law_expression_read ["text", "at", "most"] (spExprR 6) := ok_law_expression_read_all t 6
end K55
namespace K55
open PySem PySem.Spec PyProof.Rows L2 PreX FG
variable {P : Program} {w : World} {K : PySem.W.Frag} {mg : Str → Option Value} {base : Heap}

theorem take_tw (f : Nat → Bool) (r : L) : r.take (r.takeWhile f).length = r.takeWhile f := (List.prefix_iff_eq_take.mp (List.takeWhile_prefix f)).symm
theorem cutS_nat (l : L) (k j : Nat) (h : k ≤ j) : cutS (S l) (some (k : Int)) (some (j : Int)) = S ((l.drop k).take (j - k)) := by
  have := cutS_seg l k (j - k)
  rw [show k + (j - k) = j by omega] at this
  exact this
def stepWords : List L := [wCell, wGive, wFork, wCall, wSkip]
def spStepR : Sp := fun vs H Q _ => ∃ (l : L) (k : Nat), vs = [.str (S l), .int (k : Int)] ∧ l.length ≤ 1000000 ∧ runs 3999 l ∧ (stepR (l.drop k) = none → ∀ H', Same H H' → Q .non H') ∧
  ∀ (g : GS) (r : L), stepR (l.drop k) = some (g, r) → ∀ (v : V) (p : Addr) (H' : Hp), Same H H' → Dt H' v g.d → H' p = some (.tup [v, .int ((l.length - r.length : Nat) : Int)]) → Q (.ref p) H'
theorem ok_law_step_read (t : T w K mg) : FnOk P w K mg base CX0 9 t.a_law_step_read t.d_law_step_read ["text", "at"] spStepR := by
  refine t.F_law_step_read.ok sc_law_step_read (fun vs H Q E h => ?_) (fun cdv A outer s H vs Q E hr h => ?_)
  · obtain ⟨l, k, rfl, _⟩ := h
    rfl
  obtain ⟨l, k, rfl, hl, hrn, qn, qs⟩ := h
  have hz : (S l).length ≤ sizeLine := by rw [S_len]; exact Nat.le_trans hl (by decide)
  refine ⟨_, PSs.nox ((pss_cons (ps_set (i := 2) sc_law_step_read.nd rfl (by first | exact Or.inl rfl | exact Or.inr rfl) (pe_call (ok_law_letters t) (hr.mono (by decide)) rfl t.g_law_letters t.F_law_letters.kp (b_law_letters t) .nil pass0 (pa_cons (pv 0) (pa_cons (pv 1) pa_nil))))
    (pss_cons (ps_set (i := 3) sc_law_step_read.nd rfl (by first | exact Or.inl rfl | exact Or.inr rfl) (pe_slice sl_str (pv 0) (po_some (pv 1)) (po_some (pv 2))))
    (pss_cons (ps_if (pt_cmpR op_eq (pv 3) pe_str (by first | exact nomark _ | rfl)) (pss_one (ps_ret (pe_tup (pa_cons (pe_tup (pa_cons pe_str pa_nil)) (pa_cons (pv 2) pa_nil)))))
    pss_nil)
    (pss_cons (ps_if (PW.pt (pw_or (pt_cmpR (op_notIn_seq_k K rfl) (pv 3) (pe_lst (pa_cons pe_str (pa_cons pe_str (pa_cons pe_str (pa_cons pe_str (pa_cons pe_str pa_nil)))))) (by first | exact nomark _ | rfl)) (pw_or1 (pt_cmpR op_ne (pe_slice sl_str (pv 0) (po_some (pv 2)) (po_some (pe_op op_add (pv 2) pe_int))) pe_str (by first | exact nomark _ | rfl))))) (pss_one (ps_ret pe_non))
    pss_nil)
    (pss_cons (ps_set (i := 4) sc_law_step_read.nd rfl (by first | exact Or.inl rfl | exact Or.inr rfl) (pe_call (ok_law_letters t) (hr.mono (by decide)) rfl t.g_law_letters t.F_law_letters.kp (b_law_letters t) .nil pass0 (pa_cons (pv 0) (pa_cons (pe_op op_add (pv 2) pe_int) pa_nil))))
    (pss_cons (ps_set (i := 5) sc_law_step_read.nd rfl (by first | exact Or.inl rfl | exact Or.inr rfl) (pe_tup (pa_cons (pe_slice sl_str (pv 0) (po_some (pe_op op_add (pv 2) pe_int)) (po_some (pv 4))) (pa_cons (pv 4) pa_nil))))
    (pss_cons (ps_if (PW.pt (pw_or (pt_cmpR op_eq (pv 3) pe_str (by first | exact nomark _ | rfl)) (pw_or1 (pt_cmpR op_eq (pv 3) pe_str (by first | exact nomark _ | rfl))))) (pss_one (ps_set (i := 5) sc_law_step_read.nd rfl (by first | exact Or.inl rfl | exact Or.inr rfl) (pe_call (ok_law_expression_read t) (hr.mono (by decide)) rfl t.g_law_expression_read t.F_law_expression_read.kp (b_law_expression_read t) .nil pass0 (pa_cons (pv 0) (pa_cons (pe_op op_add (pv 2) pe_int) (pa_cons pe_int pa_nil))))))
    pss_nil)
    (pss_cons (ps_if (PW.pt (pw_or (pt_cmpR op_isN (pv 5) pe_non (by first | exact nomark _ | rfl)) (pw_or1 (pt_cmpR op_ne (pe_slice sl_str (pv 0) (po_some (pe_ix (ix_tup_k K rfl) (pv 5) pe_int (fun _ _ => rfl))) (po_some (pe_op op_add (pe_ix (ix_tup_k K rfl) (pv 5) pe_int (fun _ _ => rfl)) pe_int))) pe_str (by first | exact nomark _ | rfl))))) (pss_one (ps_ret pe_non))
    pss_nil)
    (pss_cons (ps_set (i := 6) sc_law_step_read.nd rfl (by first | exact Or.inl rfl | exact Or.inr rfl) (pe_call (ok_law_expression_read t) (hr.mono (by decide)) rfl t.g_law_expression_read t.F_law_expression_read.kp (b_law_expression_read t) .nil pass0 (pa_cons (pv 0) (pa_cons (pe_op op_add (pe_ix (ix_tup_k K rfl) (pv 5) pe_int (fun _ _ => rfl)) pe_int) (pa_cons pe_int pa_nil)))))
    (pss_cons (ps_if (pt_cmpR op_eq (pv 3) pe_str (by first | exact nomark _ | rfl)) (pss_one (ps_set (i := 6) sc_law_step_read.nd rfl (by first | exact Or.inl rfl | exact Or.inr rfl) (pe_call (ok_law_number_read t) (hr.mono (by decide)) rfl t.g_law_number_read t.F_law_number_read.kp (b_law_number_read t) .nil pass0 (pa_cons (pv 0) (pa_cons (pe_op op_add (pe_ix (ix_tup_k K rfl) (pv 5) pe_int (fun _ _ => rfl)) pe_int) pa_nil)))))
    pss_nil)
    (pss_one (ps_ret (pe_ifExp (pt_cmpR op_isN (pv 6) pe_non (by first | exact nomark _ | rfl)) pe_non (pe_tup (pa_cons (pe_tup (pa_cons (pv 3) (pa_cons (pe_ix (ix_tup_k K rfl) (pv 5) pe_int (fun _ _ => rfl)) (pa_cons (pe_ix (ix_tup_k K rfl) (pv 6) pe_int (fun _ _ => rfl)) pa_nil)))) (pa_cons (pe_ix (ix_tup_k K rfl) (pv 6) pe_int (fun _ _ => rfl)) pa_nil))))))))))))))))), ?_⟩
  refine ⟨_, rfl, _, rfl, l, k, rfl, hl, ?_⟩
  have hE1 : k ≤ endOf small l k := Nat.le_add_right _ _
  have hE2 : ((l.drop k).takeWhile small).length ≤ l.length - k := by
    have := (List.takeWhile_prefix small (l := l.drop k)).length_le
    rwa [List.length_drop] at this
  have hEd : endOf small l k = k + ((l.drop k).takeWhile small).length := rfl
  have htk := take_tw small (l.drop k)
  obtain ⟨res, hres⟩ : ∃ res, stepR (l.drop k) = res := ⟨_, rfl⟩
  rw [hres] at qn qs
  unfold stepR at hres
  generalize hw : (l.drop k).takeWhile small = wd at *
  generalize he : endOf small l k = en at *
  have hdr : (l.drop k).drop wd.length = l.drop en := by rw [List.drop_drop, hEd]
  rw [hdr] at hres
  sizeOf_list_dec
  rw [cutS_nat l k en hE1, show en - k = wd.length by omega, htk]
  refine iteD (fun c => ?_) (fun cw => ?_)
  · have c : wd = wWait := vstr.mp c
    rw [if_pos c] at hres
    have hen4 : en ≤ l.length := by
      rw [c] at hE2 hEd
      have h4 : wWait.length = 4 := by decide
      omega
    refine ⟨(by show 1 ≤ sizeLine; decide), fun p1 hp1 => ?_⟩
    have s1 := same_new (o := .tup [.str (Str.ofString "wait")]) hp1
    refine ⟨_, rfl, (by show 2 ≤ sizeLine; decide), fun p2 hp2 => ?_⟩
    have s2 := same_new (o := .tup [.ref p1, .int (en : Int)]) hp2
    refine qs .wait _ hres.symm (.ref p1) p2 _ (s1.trans s2) (.tup (s2 _ _ upd_same) ?_) ?_
    · rw [ofS]; exact .cons (.str _) .nil
    · rw [upd_same, List.length_drop, show l.length - (l.length - en) = en by omega]
  have cw : wd ≠ wWait := fun z => cw (vstr.mpr z)
  rw [if_neg cw] at hres
  refine ⟨_, rfl, (by show 5 ≤ sizeLine; decide), fun pl hpl => ?_⟩
  have iv : inV (V.str (S wd)) [.str "cell", .str "give", .str "fork", .str "call", .str "skip"] = decide (wd ∈ stepWords) := by
    have q := inV_strs wd stepWords
    have e1 : (stepWords.map fun x => V.str (S x)) = [.str (Str.ofString "cell"), .str (Str.ofString "give"), .str (Str.ofString "fork"), .str (Str.ofString "call"), .str (Str.ofString "skip")] := by
      simp only [ofS]; rfl
    rw [e1] at q
    exact q
  have s1 := same_new (o := .lst [.str "cell", .str "give", .str "fork", .str "call", .str "skip"]) hpl
  refine ⟨pl, _, rfl, .inl (SqL.of upd_same), rfl, rfl, _, rfl, ?_⟩
  show if (!inV (V.str (S wd)) [.str "cell", .str "give", .str "fork", .str "call", .str "skip"]) = true then _ else _
  rw [iv]
  generalize upd H pl (.lst [.str "cell", .str "give", .str "fork", .str "call", .str "skip"]) = H1 at *
  refine iteDN (fun c => ?_) (fun hin => ?_)
  · exact (qn (by rw [← hres, if_pos (.inl c)]) H1 s1)
  sizeOf_list_dec
  rw [cutS_one, ofS]
  refine iteDN (fun c => ?_) (fun c32 => ?_)
  · exact (qn (by rw [← hres, if_pos (.inr fun z => c (by rw [z]; rfl))]) H1 s1)
  have h32 : (l.drop en).take 1 = [32] := S_inj (V.str.inj c32)
  rw [if_neg (by rintro (z | z); exact z hin; exact z h32)] at hres
  have hen : en + 1 ≤ l.length := by
    have := congrArg List.length h32
    rw [List.length_take, List.length_drop, List.length_singleton] at this
    omega
  have hd1 : (l.drop en).drop 1 = l.drop (en + 1) := List.drop_drop ..
  rw [hd1] at hres
  sizeOf_list_dec
  refine ⟨l, en + 1, rfl, hl, ?_⟩
  have hM := endOf_le (f := small) hen
  have hMd : endOf small l (en + 1) = en + 1 + ((l.drop (en + 1)).takeWhile small).length := rfl
  have htm := take_tw small (l.drop (en + 1))
  generalize hn : (l.drop (en + 1)).takeWhile small = nm at *
  generalize hm : endOf small l (en + 1) = md at *
  have hdm : (l.drop (en + 1)).drop nm.length = l.drop md := by rw [List.drop_drop, hMd]
  rw [hdm] at hres
  sizeOf_list_dec
  have ecut : cutS (S l) (some ((en : Int) + 1)) (some (md : Int)) = S nm := by
    have := cutS_nat l (en + 1) md hM.1
    rw [show md - (en + 1) = nm.length by omega, htm] at this
    exact this
  rw [ecut]
  intro p3 hp3
  have s3 := same_new (o := .tup [.str (S nm), .int (md : Int)]) hp3
  have e3 : (upd H1 p3 (.tup [.str (S nm), .int (md : Int)])) p3 = some (.tup [.str (S nm), .int (md : Int)]) := upd_same
  generalize upd H1 p3 (.tup [.str (S nm), .int (md : Int)]) = H2 at *
  have s02 : Same H H2 := s1.trans s3
  simp only [gName]
  refine XS.seqR (fun σ Hx => ∃ v5 : V, σ = [some (.str (S l)), some (.int (k : Int)), some (.int (en : Int)), some (.str (S wd)), some (.int (md : Int)), some v5, none] ∧ Same H2 Hx ∧
      ((v5 = .non ∧ res = none) ∨ ∃ (v : V) (p : Addr) (d : PyData) (e3 : Nat) (f : GE → GS), v5 = .ref p ∧ Hx p = some (.tup [v, .int (e3 : Int)]) ∧ Dt Hx v d ∧ e3 ≤ l.length ∧ ((l.drop e3).take 1 ≠ [32] → res = none) ∧
        (wd ≠ wSkip → ∀ e, (f e).d = .tuple [.str (S wd), d, e.d]) ∧ (wd = wSkip → ∀ i, (f (.num i)).d = .tuple [.str (S wd), d, .int i]) ∧
        ((l.drop e3).take 1 = [32] → wd ≠ wSkip → res = (exprR 5 ((l.drop e3).drop 1)).map fun y => (f y.1, y.2)) ∧ ((l.drop e3).take 1 = [32] → wd = wSkip → res = (numR ((l.drop e3).drop 1)).map fun y => (f (.num y.1), y.2))))
    (fun σ Hx hh => ?_) (fun rest => ?_)
  · obtain ⟨v5, rfl, s2, hv⟩ := hh
    have s0x := s02.trans s2
    rcases hv with ⟨rfl, hno⟩ | ⟨v, p, d, e4, f, rfl, ep, dv, he4, h1, h2, h3, h4, h5⟩
    · exact ⟨_, rfl, rfl, _, rfl, qn hno _ s0x⟩
    refine ⟨_, rfl, rfl, _, rfl, iteD (fun z => by cases z) (fun _ => ?_)⟩
    sizeOf_list_dec
    rw [cutS_one]
    refine iteDN (fun c => ?_) (fun c32 => ?_)
    · exact qn (h1 fun z => c (by rw [z]; rfl)) _ s0x
    have h32' : (l.drop e4).take 1 = [32] := S_inj (V.str.inj c32)
    have he5 : e4 + 1 ≤ l.length := by
      have := congrArg List.length h32'
      rw [List.length_take, List.length_drop, List.length_singleton] at this
      omega
    have hd1 : (l.drop e4).drop 1 = l.drop (e4 + 1) := List.drop_drop ..
    rw [hd1] at h4 h5
    have h4 := h4 h32'
    have h5 := h5 h32'
    simp only [L2.tNext, L2.gName, Bool.false_eq_true, reduceIte]
    refine XS.seqR (fun σ Hy => ∃ v6 : V, σ = [some (.str (S l)), some (.int (k : Int)), some (.int (en : Int)), some (.str (S wd)), some (.int (md : Int)), some (.ref p), some v6] ∧ Same Hx Hy ∧
        (wd ≠ wSkip → (v6 = .non ∧ exprR 5 (l.drop (e4 + 1)) = none) ∨ ∃ (e : GE) (r : L) (q : Addr) (u : V), v6 = .ref q ∧ exprR 5 (l.drop (e4 + 1)) = some (e, r) ∧ Hy q = some (.tup [u, .int ((l.length - r.length : Nat) : Int)]) ∧ Dt Hy u e.d))
      (fun σ Hy hh => ?_) (fun rest2 => ?_)
    · obtain ⟨v6, rfl, s6, hv6⟩ := hh
      refine XS.seqR (fun σ Hz => ∃ v6 : V, σ = [some (.str (S l)), some (.int (k : Int)), some (.int (en : Int)), some (.str (S wd)), some (.int (md : Int)), some (.ref p), some v6] ∧ Same Hx Hz ∧
          ((v6 = .non ∧ res = none) ∨ ∃ (g : GS) (r : L) (q : Addr) (u : V) (d2 : PyData), v6 = .ref q ∧ res = some (g, r) ∧ g.d = .tuple [.str (S wd), d, d2] ∧ Hz q = some (.tup [u, .int ((l.length - r.length : Nat) : Int)]) ∧ Dt Hz u d2))
        (fun σ Hz hh => ?_) (fun rest3 => ?_)
      · obtain ⟨v6, rfl, s7, hv7⟩ := hh
        rcases hv7 with ⟨rfl, hno⟩ | ⟨g, r, q, u, d2, rfl, hr, hg, eq, du⟩
        · exact ⟨_, rfl, rfl, _, rfl, qn hno _ (s0x.trans s7)⟩
        have epz := s7 _ _ ep
        have dvz := dv.mono s7
        refine ⟨_, rfl, rfl, _, rfl, iteD (fun z => by cases z) (fun _ => ?_)⟩
        sizeOf_list_dec
        intro pa hpa
        have s8 := same_new (o := .tup [.str (S wd), v, u]) hpa
        have eqz := s8 _ _ eq
        refine ⟨_, rfl, q, _, _, _, rfl, rfl, SqT.of eqz, at1, (by show 2 ≤ sizeLine; decide), fun pb hpb => ?_⟩
        have s9 := same_new (o := .tup [.ref pa, .int ((l.length - r.length : Nat) : Int)]) hpb
        refine qs g r hr (.ref pa) pb _ (s0x.trans (s7.trans (s8.trans s9))) ?_ upd_same
        rw [hg]
        exact .tup (s9 _ _ upd_same) (.cons (.str _) (.cons (dvz.mono (s8.trans s9)) (.cons (du.mono (s8.trans s9)) .nil)))
      · refine ⟨_, rfl, rfl, _, rfl, iteD (fun c => ?_) (fun c => ?_)⟩
        · have c : wd = wSkip := vstr.mp c
          have epy := s6 _ _ ep
          sizeOf_list_dec
          refine ⟨l, e4 + 1, rfl, he5, hl, hrn, fun hno H' s' => rest3 _ _ ⟨.non, rfl, s6.trans s', .inl ⟨rfl, ?_⟩⟩, fun i r hr q H' s' eq => rest3 _ _ ⟨.ref q, rfl, s6.trans s', .inr ⟨f (.num i), r, q, .int i, .int i, rfl, ?_, h3 c i, eq, .int i⟩⟩⟩
          · rw [h5 c, hno]; rfl
          · rw [h5 c, hr]; rfl
        · have c : wd ≠ wSkip := fun z => c (vstr.mpr z)
          rcases hv6 c with ⟨rfl, hno⟩ | ⟨e, r, q, u, rfl, hr, eq, du⟩
          · exact rest3 _ _ ⟨.non, rfl, s6, .inl ⟨rfl, by rw [h4 c, hno]; rfl⟩⟩
          · exact rest3 _ _ ⟨.ref q, rfl, s6, .inr ⟨f e, r, q, u, e.d, rfl, by rw [h4 c, hr]; rfl, h2 c e, eq, du⟩⟩
    · sizeOf_list_dec
      exact ⟨l, e4 + 1, 5, rfl, by decide, he5, hl, hrn, fun hno H' s' => rest2 _ _ ⟨.non, rfl, s', fun _ => .inl ⟨rfl, hno⟩⟩, fun e r hr v p H' s' dv ep => rest2 _ _ ⟨.ref p, rfl, s', fun _ => .inr ⟨e, r, p, v, rfl, hr, ep, dv⟩⟩⟩
  · refine (fun (hF : (wd = wCell ∨ wd = wSkip) → _) (hG : ¬ (wd = wCell ∨ wd = wSkip) → _) => ⟨_, rfl, rfl, _, rfl, iteD (fun c => hF (.inl (vstr.mp c))) (fun c => ⟨_, rfl, rfl, _, rfl, iteD (fun c2 => hF (.inr (vstr.mp c2))) (fun c2 => hG fun z => z.elim (fun z => c (vstr.mpr z)) fun z => c2 (vstr.mpr z))⟩)⟩) (fun hc => ?_) (fun hc => ?_)
    · sizeOf_list_dec
      refine ⟨l, en + 1, 5, rfl, by decide, hen, hl, hrn, fun hno H' s' => rest _ _ ⟨.non, rfl, s', .inl ⟨rfl, ?_⟩⟩, fun e r hr v p H' s' dv ep => ?_⟩
      · rcases hc with h | h
        · rw [if_pos h, hno] at hres; exact hres.symm
        · rw [if_neg (by rw [h]; decide), if_pos h, hno] at hres; exact hres.symm
      · obtain ⟨hsd, hok⟩ := exprR_sound 5 _ _ _ hr
        obtain ⟨g1, g2, g3⟩ := left_at hen hsd
        rcases hc with h | h
        · rw [if_pos h, hr] at hres
          refine rest _ _ ⟨.ref p, rfl, s', .inr ⟨v, p, e.d, l.length - r.length, fun y => .cell e y, rfl, ep, dv, g3, fun z => ?_, fun _ y => by rw [h]; rfl, fun z => ?_, fun z _ => ?_, fun _ z => ?_⟩⟩
          · rw [g1] at z; rw [← hres]; exact if_pos z
          · rw [h] at z; exact absurd z (by decide)
          · rw [g1] at z ⊢; rw [← hres]; exact if_neg fun q => q z
          · rw [h] at z; exact absurd z (by decide)
        · rw [if_neg (by rw [h]; decide), if_pos h, hr] at hres
          refine rest _ _ ⟨.ref p, rfl, s', .inr ⟨v, p, e.d, l.length - r.length, fun y => match y with | .num i => .skip e i | _ => .wait, rfl, ep, dv, g3, fun z => ?_, fun z => absurd h z, fun _ i => by rw [h]; rfl, fun _ z => absurd h z, fun z _ => ?_⟩⟩
          · rw [g1] at z; rw [← hres]; exact if_pos z
          · rw [g1] at z ⊢; rw [← hres]; exact if_neg fun q => q z
    · rw [if_neg fun z => hc (.inl z), if_neg fun z => hc (.inr z)] at hres
      refine rest _ _ ⟨.ref p3, rfl, Same.refl _, .inr ⟨.str (S nm), p3, .str (S nm), md, fun y => .other wd nm y, rfl, e3, .str _, hM.2, fun z => ?_, fun _ y => rfl, fun z => absurd (.inr z) hc, fun z _ => ?_, fun _ z => absurd (.inr z) hc⟩⟩
      · rw [← hres]; exact if_pos z
      · rw [← hres]; exact if_neg fun q => q z
end K55
namespace K55
open PySem PySem.Spec PyProof.Rows L2 PreX FG
variable {P : Program} {w : World} {K : PySem.W.Frag} {mg : Str → Option Value} {base : Heap}

theorem cutS_two (l : L) (k : Nat) : cutS (S l) (some (k : Int)) (some ((k : Int) + 2)) = S ((l.drop k).take 2) := cutS_seg l k 2
def spHelperR : Sp := fun vs H Q _ => ∃ (l : L) (k : Nat), vs = [.str (S l), .int (k : Int)] ∧ k ≤ l.length ∧ l.length ≤ 100000 ∧ runs 3999 l ∧ (helperR (l.drop k) = none → ∀ H', Same H H' → Q .non H') ∧
  ∀ (g : Helper) (r : L), helperR (l.drop k) = some (g, r) → ∀ (ta sa : Addr) (us : List V) (p : Addr) (H' : Hp), H sa = none → Same H H' → H' ta = some (.tup [.str (S g.1), .ref sa]) → H' sa = some (.lst us) → DtA (hid sa H') us (g.2.map GS.d) → H' p = some (.tup [.ref ta, .int ((l.length - r.length : Nat) : Int)]) → Q (.ref p) H'
theorem ok_law_helper_read (t : T w K mg) : FnOk P w K mg base CX0 10 t.a_law_helper_read t.d_law_helper_read ["text", "at"] spHelperR := by
  refine t.F_law_helper_read.ok sc_law_helper_read (fun vs H Q E h => ?_) (fun cdv A outer s H vs Q E hr h => ?_)
  · obtain ⟨l, k, rfl, _⟩ := h
    rfl
  obtain ⟨l, k, rfl, hk, hl, hrn, qn, qs⟩ := h
  have hl6 : l.length ≤ 1000000 := Nat.le_trans hl (by decide)
  have hz : (S l).length ≤ sizeLine := by rw [S_len]; exact Nat.le_trans hl (by decide)
  refine ⟨_, PSs.nox ((pss_cons (ps_set (i := 2) sc_law_helper_read.nd rfl (by first | exact Or.inl rfl | exact Or.inr rfl) (pe_call (ok_law_letters t) (hr.mono (by decide)) rfl t.g_law_letters t.F_law_letters.kp (b_law_letters t) .nil pass0 (pa_cons (pv 0) (pa_cons (pv 1) pa_nil))))
    (pss_cons (ps_set (i := 3) sc_law_helper_read.nd rfl (by first | exact Or.inl rfl | exact Or.inr rfl) (pe_slice sl_str (pv 0) (po_some (pv 1)) (po_some (pv 2))))
    (pss_cons (ps_if (pt_cmpR op_ne (pe_slice sl_str (pv 0) (po_some (pv 2)) (po_some (pe_op op_add (pv 2) pe_int))) pe_str (by first | exact nomark _ | rfl)) (pss_one (ps_ret pe_non))
    pss_nil)
    (pss_cons (ps_set (i := 2) sc_law_helper_read.nd rfl (by first | exact Or.inl rfl | exact Or.inr rfl) (pe_op op_add (pv 2) pe_int))
    (pss_cons (ps_set (i := 4) sc_law_helper_read.nd rfl (by first | exact Or.inl rfl | exact Or.inr rfl) (pe_lst pa_nil))
    (pss_cons (ps_while PassesOwn.never (pt_cmpR op_eq (pe_slice sl_str (pv 0) (po_some (pv 2)) (po_some (pe_op op_add (pv 2) pe_int))) (pe_ix (ix_list_k K rfl) (pe_lst (pa_cons pe_str (pa_cons pe_str pa_nil))) (pe_callTy call_int1 (by rfl) t.z_int (by decide +kernel) (pa_cons (pe_cmpR (XL.op_neE K rfl hr.units) (pv 4) (pe_lst pa_nil) (by first | exact nomark _ | rfl)) pa_nil)) (fun _ _ => rfl)) (by first | exact nomark _ | rfl))
    (pss_cons (ps_set (i := 5) sc_law_helper_read.nd rfl (by first | exact Or.inl rfl | exact Or.inr rfl) (pe_call (ok_law_step_read t) (hr.mono (by decide)) rfl t.g_law_step_read t.F_law_step_read.kp (b_law_step_read t) .nil pass0 (pa_cons (pv 0) (pa_cons (pe_op op_add (pe_op op_add (pv 2) pe_int) (pe_callTy call_int1 (by rfl) t.z_int (by decide +kernel) (pa_cons (pe_cmpR (XL.op_neE K rfl hr.units) (pv 4) (pe_lst pa_nil) (by first | exact nomark _ | rfl)) pa_nil))) pa_nil))))
    (pss_cons (ps_if (PW.pt (pw_or (pt_cmpR op_isN (pv 5) pe_non (by first | exact nomark _ | rfl)) (pw_or1 (PW.pt (pw_and (pt_cmpR (XL.op_neE K rfl hr.units) (pv 4) (pe_lst pa_nil) (by first | exact nomark _ | rfl)) (pw_and1 (pt_cmpR op_ne (pe_slice sl_str (pv 0) (po_some (pv 2)) (po_some (pe_op op_add (pv 2) pe_int))) pe_str (by first | exact nomark _ | rfl)))))))) (pss_one (ps_ret pe_non))
    pss_nil)
    (pss_cons (ps_expr (pe_bm PySem.F.plainAttrs_list PySem.F.slot_list_append PySem.F.type_list_append mt_append (pv 4) (pa_cons (pe_ix (ix_tup_k K rfl) (pv 5) pe_int (fun _ _ => rfl)) pa_nil)))
    (pss_one (ps_set (i := 2) sc_law_helper_read.nd rfl (by first | exact Or.inl rfl | exact Or.inr rfl) (pe_ix (ix_tup_k K rfl) (pv 5) pe_int (fun _ _ => rfl))))))))
    (pss_one (ps_ret (pe_tup (pa_cons (pe_tup (pa_cons (pv 3) (pa_cons (pv 4) pa_nil))) (pa_cons (pv 2) pa_nil)))))))))))), ?_⟩
  refine ⟨_, rfl, _, rfl, l, k, rfl, hl6, ?_⟩
  have hE := endOf_le (f := small) hk
  have hEd : endOf small l k = k + ((l.drop k).takeWhile small).length := rfl
  have htk := take_tw small (l.drop k)
  obtain ⟨res, hres⟩ : ∃ res, helperR (l.drop k) = res := ⟨_, rfl⟩
  rw [hres] at qn qs
  unfold helperR at hres
  generalize hw : (l.drop k).takeWhile small = wd at *
  generalize he : endOf small l k = e0 at *
  have hdr : (l.drop k).drop wd.length = l.drop e0 := by rw [List.drop_drop, hEd]
  rw [hdr] at hres
  sizeOf_list_dec
  rw [cutS_nat l k e0 hE.1, show e0 - k = wd.length by omega, htk, cutS_one]
  refine iteDN (fun c => ?_) (fun c58 => ?_)
  · exact qn (by rw [← hres, if_pos fun z => c (by rw [z]; rfl)]) _ (Same.refl _)
  have h58 : (l.drop e0).take 1 = [58] := S_inj (V.str.inj c58)
  rw [if_neg fun z => z h58] at hres
  have he1 : e0 + 1 ≤ l.length := by
    have := congrArg List.length h58
    rw [List.length_take, List.length_drop, List.length_singleton] at this
    omega
  rw [show (l.drop e0).drop 1 = l.drop (e0 + 1) from List.drop_drop ..] at hres
  sizeOf_list_dec
  intro sp hsp
  have s1 := same_new (o := .lst []) hsp
  have hfu : l.length - (e0 + 1) + 1 ≤ (l.drop k).length + 1 := by rw [List.length_drop]; omega
  generalize hF : (l.drop k).length + 1 = F0 at *
  refine ⟨fun m σ H' => ∃ (F en : Nat) (ss : List GS) (us : List V) (v5 : Option V), m = F ∧ σ = [some (.str (S l)), some (.int (k : Int)), some (.int (en : Int)), some (.str (S wd)), some (.ref sp), v5] ∧ Same H (hid sp H') ∧ H' sp = some (.lst us) ∧ DtA (hid sp H') us (ss.map GS.d) ∧
      en ≤ l.length ∧ l.length - en + 1 ≤ F ∧ ss.length ≤ en ∧ stepsR F0 true (l.drop (e0 + 1)) = (stepsR F (decide (ss = [])) (l.drop en)).map fun x => (ss ++ x.1, x.2),
    ⟨F0, F0, e0 + 1, [], [], none, rfl, rfl, by rw [hid_upd]; exact same_hid hsp (Same.refl _), upd_same, .nil, he1, hfu, Nat.zero_le _, ?_⟩, ?_⟩
  · show _ = (stepsR F0 true (l.drop (e0 + 1))).map _
    cases stepsR F0 true (l.drop (e0 + 1)) <;> rfl
  rintro m σ H1 ⟨F, en, ss, us, v5, hmF, rfl, s2, e2, d2, hen, hF2, hse, hst⟩
  have s02 : Same H H1 := s2.trans hid_le
  obtain ⟨F, rfl⟩ : ∃ F', F = F' + 1 := ⟨F - 1, by omega⟩
  have hus : decide (us = []) = decide (ss = []) := by
    have := d2.length
    rw [List.length_map] at this
    cases us <;> cases ss <;> simp at this ⊢
  rw [stepsR] at hst
  sizeOf_list_dec
  rw [cutS_one]
  intro pl hpl
  have s3 := same_new (o := .lst [.str (Str.ofString " "), .str (Str.ofString ",")]) hpl
  have e2b := s3 _ _ e2
  refine ⟨_, rfl, (by show 0 ≤ sizeLine; decide), fun pe hpe => ?_⟩
  have s4 := same_new (o := .lst []) hpe
  have epl := s4 _ _ (upd_same : (upd H1 pl (.lst [.str (Str.ofString " "), .str (Str.ofString ",")])) pl = _)
  have e2c := s4 _ _ e2b
  have s24 := s3.trans s4
  refine ⟨sp, pe, _, rfl, rfl, SqL.of e2c, SqL.of upd_same, .inr ⟨_, rfl, ?_⟩⟩
  rw [hus]
  generalize upd (upd H1 pl (.lst [.str (Str.ofString " "), .str (Str.ofString ",")])) pe (.lst []) = H2 at *
  generalize hfi : decide (ss = []) = first at *
  refine ⟨pl, _, _, V.str (S (if first = true then [32] else [44])), rfl, rfl, SqL.of epl, ?_, rfl, _, rfl, iteD (fun c => ?_) (fun c => ?_)⟩
  · cases first
    · exact at1
    · exact at0
  · have hc : (l.drop en).take 1 = (if first = true then [32] else [44]) := S_inj (V.str.inj c)
    rw [if_pos hc] at hst
    have hlt : en < l.length := by
      have := congrArg List.length hc
      rw [List.length_take, List.length_drop] at this
      have : min 1 (l.length - en) = 1 := by rw [this]; cases first <;> rfl
      omega
    refine ⟨_, fun _ _ h => h, ?_⟩
    refine ⟨_, rfl, _, rfl, _, _, rfl, rfl, _, rfl, (by show 0 ≤ sizeLine; decide), fun pe2 hpe2 => ?_⟩
    have s5 := same_new (o := .lst []) hpe2
    refine ⟨sp, pe2, _, rfl, rfl, SqL.of (s5 _ _ e2c), SqL.of upd_same, .inr ⟨_, rfl, _, _, rfl, rfl, ?_⟩⟩
    rw [hus]
    have e2d := s5 _ _ e2c
    have s25 := s24.trans s5
    generalize upd H2 pe2 (.lst []) = H3 at *
    have hent : ((en : Int) + 1 + (if (!first) = true then 1 else 0)) = ((en + (if first = true then 1 else 2) : Nat) : Int) := by cases first <;> rfl
    have hdr2 : (l.drop en).drop (if first = true then 1 else 2) = l.drop (en + (if first = true then 1 else 2)) := List.drop_drop ..
    rw [hdr2] at hst
    have s03 := s02.trans s25
    refine ⟨l, _, by rw [← hent]; rfl, hl6, hrn, fun hno H' s' => ?_, fun g r hg v p H' s' dv ep => ?_⟩
    · refine ⟨_, rfl, rfl, _, rfl, qn ?_ _ (s03.trans s')⟩
      rw [← hres, hst, hno]; rfl
    rw [hg] at hst
    have hst : stepsR F0 true (l.drop (e0 + 1)) = (if first = false ∧ (l.drop en).take 2 ≠ [44, 32] then none else (stepsR F false r).map fun x => (g :: x.1, x.2)).map fun x => (ss ++ x.1, x.2) := hst
    have e2e := s' _ _ e2d
    have s35 := s25.trans s'
    simp only [L2.tNext, L2.gName, Bool.false_eq_true, reduceIte]
    refine XS.seqR (fun σ Hx => σ = [some (.str (S l)), some (.int (k : Int)), some (.int (en : Int)), some (.str (S wd)), some (.ref sp), some (.ref p)] ∧ Same H' Hx ∧ (first = false → (l.drop en).take 2 = [44, 32]))
      (fun σ Hx hh => ?_) (fun rest => ?_)
    · obtain ⟨rfl, s6, h44⟩ := hh
      rw [if_neg (by rintro ⟨z1, z2⟩; exact z2 (h44 z1))] at hst
      have epx := s6 _ _ ep
      have e2x := s6 _ _ e2e
      have dvx := dv.mono s6
      obtain ⟨hr, _⟩ := stepR_sound hg
      have hle2 : en + (if first = true then 1 else 2) ≤ l.length := by
        cases first with
        | true => show en + 1 ≤ _; omega
        | false =>
          have := congrArg List.length (h44 rfl)
          rw [List.length_take, List.length_drop] at this
          have : min 2 (l.length - en) = 2 := this
          show en + 2 ≤ _
          omega
      obtain ⟨g1, g2, g3⟩ := left_at hle2 hr
      have hgl : en + 1 ≤ l.length - r.length := by rw [g2]; split <;> omega
      refine ⟨_, rfl, .inl ⟨rfl, _, SqL.of e2x⟩, _, rfl, p, _, _, v, rfl, rfl, SqT.of epx, at0, sp, us, v, rfl, rfl, e2x, ?_, ?_⟩
      · have := d2.length
        rw [List.length_map] at this
        exact Nat.lt_of_le_of_lt (m := 100000) (by omega) (by decide)
      have npsp : p ≠ sp := fun z => by rw [z, e2x] at epx; cases epx
      refine ⟨_, rfl, p, _, _, _, rfl, rfl, SqT.of (by rw [upd_ne npsp]; exact epx), at1, ?_⟩
      have s1x : Same H1 Hx := s35.trans s6
      refine ⟨F, by omega, F, l.length - r.length, ss ++ [g], us ++ [v], _, rfl, rfl, ?_, upd_same, ?_, g3, by omega, ?_, ?_⟩
      · rw [hid_upd]; exact s2.trans (hid_same s1x)
      · rw [hid_upd, List.map_append]
        exact (d2.mono (hid_same s1x)).append (.one (gs_hid e2x g dvx))
      · rw [List.length_append, List.length_singleton]; omega
      · rw [hst, g1, show decide (ss ++ [g] = []) = false by simp]
        cases stepsR F false r with
        | none => rfl
        | some z => obtain ⟨z1, z2⟩ := z; simp
    · refine ⟨_, rfl, rfl, _, rfl, iteD (fun z => by cases z) (fun _ => ?_)⟩
      refine ⟨_, rfl, (by show 0 ≤ sizeLine; decide), fun pe3 hpe3 => ?_⟩
      have s7 := same_new (o := .lst []) hpe3
      refine ⟨sp, pe3, _, rfl, rfl, SqL.of (s7 _ _ e2e), SqL.of upd_same, _, rfl, ?_⟩
      rw [hus]
      refine iteBN (fun hf => ?_) (fun hf => ?_)
      · refine ⟨_, rfl, _, rfl, _, rfl, _, rfl, _, _, rfl, rfl, _, rfl, _, rfl, hz, rfl, _, rfl, ?_⟩
        rw [cutS_two]
        refine iteDN (fun c4 => ?_) (fun c4 => ?_)
        · refine qn ?_ _ (s03.trans (s'.trans s7))
          rw [← hres, hst, if_pos ⟨hf, fun z => c4 (by rw [z]; rfl)⟩]; rfl
        · exact rest _ _ ⟨rfl, s7, fun _ => S_inj (V.str.inj c4)⟩
      · exact rest _ _ ⟨rfl, s7, fun z => by rw [hf] at z; cases z⟩
  · have hc : ¬ (l.drop en).take 1 = (if first = true then [32] else [44]) := fun z => c (by rw [z])
    rw [if_neg hc] at hst
    have hst : stepsR F0 true (l.drop (e0 + 1)) = some (ss, l.drop en) := by rw [hst]; simp
    rw [hst] at hres
    refine ⟨_, rfl, _, rfl, (by show 2 ≤ sizeLine; decide), fun p1 hp1 => ?_⟩
    have s6 := same_new (o := .tup [.str (S wd), .ref sp]) hp1
    refine ⟨_, rfl, (by show 2 ≤ sizeLine; decide), fun p2 hp2 => ?_⟩
    have s7 := same_new (o := .tup [.ref p1, .int (en : Int)]) hp2
    refine qs (wd, ss) (l.drop en) hres.symm p1 sp us p2 _ hsp (s02.trans (s24.trans (s6.trans s7))) (s7 _ _ upd_same) (s7 _ _ (s6 _ _ e2c)) (d2.mono (hid_same (s24.trans (s6.trans s7)))) ?_
    rw [upd_same, List.length_drop, show l.length - (l.length - en) = en by omega]
end K55
namespace K55
open PySem PySem.Spec PyProof.Rows L2 PreX FG
variable {P : Program} {w : World} {K : PySem.W.Frag} {mg : Str → Option Value} {base : Heap}

theorem ok_law_is_name (t : T w K mg) : FnOk P w K mg base CX0 1 t.a_law_is_name t.d_law_is_name ["thing"] spName := by
  refine t.F_law_is_name.ok sc_law_is_name (fun vs H Q E h => ?_) (fun cdv A outer s H vs Q E hr h => ?_)
  · obtain ⟨l, rfl, _⟩ := h
    rfl
  obtain ⟨l, rfl, hl, q⟩ := h
  have hl' : (S l).length ≤ sizeLine := by rw [S_len]; exact hl
  refine ⟨_, PSs.nox ((pss_cons (ps_if (PW.pt (pw_or (pt_not (pt_val (pe_callB (call_isi_k K rfl) (by rfl) t.z_isinstance (by decide +kernel) (pa_cons (pv 0) (pa_cons (pe_bltn (v := .ty "str") (by rfl) t.z_str (by decide +kernel) rfl) pa_nil))))) (pw_or (pt_cmpR op_eq (pv 0) pe_str (by first | exact nomark _ | rfl)) (pw_or1 (pt_cmpR op_gt (pe_callB call_len_str (by rfl) t.z_len (by decide +kernel) (pa_cons (pv 0) pa_nil)) pe_int (by first | exact nomark _ | rfl)))))) (pss_one (ps_ret pe_bl))
    pss_nil)
    (pss_one (ps_ret (pe_cmpR (XL.op_eqE K rfl hr.units) (pe_lc (own := [("sign", 1)]) (g := gName 1) rfl sc_law_is_name.nd (pi_str (pv 0)) (blkOk_by (own := [("sign", 1)]) (N := N_law_is_name) (sc := defScope s_law_is_name) (by decide +kernel)) (fun _ _ _ _ _ => (pg_name (i := 1) sc_law_is_name.nd rfl (by first | exact Or.inl rfl | exact Or.inr rfl))) (fun _ _ _ _ _ => (pts_one (pt_cmpR op_notIn_sign (pv 1) pe_str (by first | exact nomark _ | rfl)))) (fun _ _ _ _ _ => (pv 1))) (pe_lst pa_nil) (by first | exact nomark _ | rfl)))))), ?_⟩
  refine ⟨_, rfl, _, _, _, _, _, rfl, .ty _, (Dt.str _).ty, kit_str _, _, rfl, iteF ?_⟩
  refine ⟨_, rfl, rfl, _, rfl, iteD (fun c => ?_) (fun c => ?_)⟩
  · have c : l = [] := S_inj (by rw [V.str.inj c, ofS]; rfl)
    subst c
    exact q H (Same.refl _)
  have hne : l ≠ [] := fun z => c (by rw [z]; rfl)
  have h1 : 1 ≤ l.length := List.length_pos_iff.mpr hne
  refine ⟨_, rfl, _, rfl, hl', _, _, rfl, rfl, _, rfl, iteD (fun c2 => ?_) (fun c2 => ?_)⟩
  · rw [S_len] at c2
    have e : isName l = false := by unfold isName; rw [decide_eq_false (by omega : ¬ l.length ≤ 8), Bool.and_false]; rfl
    have q' := q H (Same.refl _)
    rw [e] at q'; exact q'
  rw [S_len] at c2
  refine ⟨_, rfl, _, rfl, fun D hD => ?_⟩
  refine lc_it walk_str (fun i H' => Same H (hid D H') ∧ H' D = some (.lst (((l.take i).filter fun c => !small c).map fun c => V.str (S [c])))) ⟨by rw [hid_upd]; exact same_hid hD (Same.refl _), upd_same⟩ (fun _ _ _ _ => trivial) (fun i x H1 H2 hi ⟨p1, p2⟩ y => ?_) (fun H1 ⟨p1, p2⟩ => ?_)
  · obtain ⟨rfl, c0, hc, rfl⟩ := y
    have hc : l[i]? = some c0 := by simpa [S] using hc
    refine ⟨rfl, _, rfl, c0, _, rfl, rfl, _, rfl, ?_⟩
    rw [in_letters]
    refine iteBN (fun hs => ?_) (fun hs => ?_)
    · refine ⟨_, rfl, _, p2, ?_, ?_, ?_⟩
      · rw [List.length_map]
        have := List.length_filter_le (fun c => !small c) (l.take i)
        rw [List.length_take] at this
        exact small1000 (by omega)
      · rw [hid_upd]; exact p1
      · rw [upd_same, List.take_add_one, hc, List.filter_append, List.map_append]
        simp [hs]
        rfl
    · refine ⟨p1, ?_⟩
      rw [p2, List.take_add_one, hc, List.filter_append]
      simp [hs]
  · have e : (S l).cps.size = l.length := S_len l
    rw [e, List.take_length] at p2
    refine ⟨(by show 0 ≤ sizeLine; decide), fun pe hpe => ?_⟩
    have s1 := same_new (o := .lst []) hpe
    refine ⟨D, pe, _, rfl, rfl, SqL.of (s1 _ _ p2), SqL.of upd_same, ?_⟩
    have e2 : isName l = decide (((l.filter fun c => !small c).map fun c => V.str (S [c])) = []) := by
      unfold isName
      rw [decide_eq_true h1, decide_eq_true (by omega : l.length ≤ 8)]
      by_cases h : l.all small = true
      · rw [h]
        rw [List.all_eq_true] at h
        rw [decide_eq_true]; rfl
        rw [List.map_eq_nil_iff, List.filter_eq_nil_iff]
        intro a ha
        simp [h a ha]
      · rw [Bool.eq_false_iff.mpr h, decide_eq_false]; rfl
        intro z
        rw [List.map_eq_nil_iff, List.filter_eq_nil_iff] at z
        refine h (List.all_eq_true.mpr fun a ha => ?_)
        have := z a ha
        simpa using this
    rw [← e2]
    exact q _ (Same.trans (fun b o hb => hid_le _ _ (p1 b o hb)) s1)
theorem ok_law_is_whole (t : T w K mg) : FnOk P w K mg base CX0 1 t.a_law_is_whole t.d_law_is_whole ["thing"] spWhole := by
  refine t.F_law_is_whole.ok sc_law_is_whole (fun vs H Q E h => ?_) (fun cdv A outer s H vs Q E hr h => ?_)
  · obtain ⟨v, d, rfl, _⟩ := h
    rfl
  obtain ⟨v, d, rfl, hd, q⟩ := h
  refine ⟨_, PSs.nox ((pss_one (ps_ret (pe_and (pe_callB (call_isi_k K rfl) (by rfl) t.z_isinstance (by decide +kernel) (pa_cons (pv 0) (pa_cons (pe_bltn (v := .ty "int") (by rfl) t.z_int (by decide +kernel) rfl) pa_nil))) (pe_one (pe_not (pe_callB (call_isi_k K rfl) (by rfl) t.z_isinstance (by decide +kernel) (pa_cons (pv 0) (pa_cons (pe_bltn (v := .ty "bool") (by rfl) t.z_bool (by decide +kernel) rfl) pa_nil))))))))), ?_⟩
  refine ⟨_, rfl, _, _, _, _, _, rfl, .ty _, hd.ty, kit_int d, ?_⟩
  refine ⟨_, rfl, ite2 (fun c => ?_) (fun c => ?_)⟩
  · refine ⟨_, rfl, _, _, _, _, _, rfl, .ty _, hd.ty, kit_bool d, _, rfl, ?_⟩
    have e := isWhole_eq d
    rw [c] at e
    rw [← e] at q
    exact q
  · have e := isWhole_eq d
    rw [Bool.eq_false_iff.mpr c] at e
    rw [← e] at q
    exact q
def pkv : List (Key × V) := [(.inr "arg", .int 0), (.inr "cell", .int 1), (.inr "add", .int 2), (.inr "less", .int 2), (.inr "least", .int 2)]
theorem pkv_val (l : L) : valV (mergeK [] pkv) (Sum.inr (S l)) = (parts l).map fun n => V.int ((n : Nat) : Int) := by
  have e : mergeK [] pkv = [(.inr (S wArg), .int 0), (.inr (S wCell), .int 1), (.inr (S wAdd), .int 2), (.inr (S wLess), .int 2), (.inr (S wLeast), .int 2)] := by
    show mergeK [] [((.inr (Str.ofString "arg") : Key), V.int 0), (.inr (Str.ofString "cell"), .int 1), (.inr (Str.ofString "add"), .int 2), (.inr (Str.ofString "less"), .int 2), (.inr (Str.ofString "least"), .int 2)] = _
    simp only [ofS]
    decide +kernel
  rw [e]
  unfold parts
  by_cases h1 : l = wArg
  · subst h1; rfl
  rw [if_neg h1, valV_neg (fun z => h1 (S_inj (Sum.inr.inj z)).symm)]
  by_cases h2 : l = wCell
  · subst h2; rfl
  rw [if_neg h2, valV_neg (fun z => h2 (S_inj (Sum.inr.inj z)).symm)]
  by_cases h3 : l = wAdd
  · subst h3; rfl
  rw [if_neg h3, valV_neg (fun z => h3 (S_inj (Sum.inr.inj z)).symm)]
  by_cases h4 : l = wLess
  · subst h4; rfl
  rw [if_neg h4, valV_neg (fun z => h4 (S_inj (Sum.inr.inj z)).symm)]
  by_cases h5 : l = wLeast
  · subst h5; rfl
  rw [if_neg h5, valV_neg (fun z => h5 (S_inj (Sum.inr.inj z)).symm)]
  rfl
def spLawE (n : Nat) : Sp := fun vs H Q _ => ∃ (v : V) (m : Nat) (e : GE), vs = [v, .int (m : Int)] ∧ m < n ∧ Dt H v e.d ∧ ∀ H', Same H H' → Q (.bl (e.ok m)) H'
theorem ok_law_is_expression_n (t : T w K mg) {n : Nat} (G : FnOk P w K mg base CX0 (n + 1) t.a_law_is_expression t.d_law_is_expression ["thing", "most"] (spLawE n)) :
    FnOk P w K mg base CX0 (n + 2) t.a_law_is_expression t.d_law_is_expression ["thing", "most"] (spLawE (n + 1)) := by
  refine t.F_law_is_expression.ok sc_law_is_expression (fun vs H Q E h => ?_) (fun cdv A outer s H vs Q E hr h => ?_)
  · obtain ⟨v, m, e, rfl, _⟩ := h
    rfl
  obtain ⟨v, m, e, rfl, hm, hd, q⟩ := h
  refine ⟨_, PSs.nox ((pss_cons (ps_if (PW.pt (pw_or (pt_cmpR op_eq (pv 1) pe_int (by first | exact nomark _ | rfl)) (pw_or1 (pt_val (pe_call (ok_law_is_whole t) (hr.mono (by omega)) rfl t.g_law_is_whole t.F_law_is_whole.kp (b_law_is_whole t) .nil pass0 (pa_cons (pv 0) pa_nil)))))) (pss_one (ps_ret (pe_cmpR op_gt (pv 1) pe_int (by first | exact nomark _ | rfl))))
    pss_nil)
    (pss_cons (ps_if (PW.pt (pw_or (pt_not (pt_val (pe_callB (call_isi_k K rfl) (by rfl) t.z_isinstance (by decide +kernel) (pa_cons (pv 0) (pa_cons (pe_bltn (v := .ty "tuple") (by rfl) t.z_tuple (by decide +kernel) rfl) pa_nil))))) (pw_or (pt_cmpR (XL.op_eqTE K rfl hr.units) (pv 0) (pe_tup pa_nil) (by first | exact nomark _ | rfl)) (pw_or1 (pt_not (pt_val (pe_callB (call_isi_k K rfl) (by rfl) t.z_isinstance (by decide +kernel) (pa_cons (pe_ix (ix_tup_k K rfl) (pv 0) pe_int (fun _ _ => rfl)) (pa_cons (pe_bltn (v := .ty "str") (by rfl) t.z_str (by decide +kernel) rfl) pa_nil))))))))) (pss_one (ps_ret pe_bl))
    pss_nil)
    (pss_cons (ps_set (i := 2) sc_law_is_expression.nd rfl (by first | exact Or.inl rfl | exact Or.inr rfl) (pe_dget2 (hu_of hr) (pe_disp (pps_cons pe_str pe_int (pps_cons pe_str pe_int (pps_cons pe_str pe_int (pps_cons pe_str pe_int (pps_cons pe_str pe_int pps_nil))))) (by rfl) (by rfl) (fun z => by cases z) (by decide)) (pe_ix (ix_tup_k K rfl) (pv 0) pe_int (fun _ _ => rfl)) (pe_un un_neg pe_int) ⟨rfl, rfl, rfl, rfl⟩))
    (pss_cons (ps_if (pt_cmpR op_ne (pe_callB (call_len_seq_k K rfl) (by rfl) t.z_len (by decide +kernel) (pa_cons (pv 0) pa_nil)) (pe_op op_add (pv 2) pe_int) (by first | exact nomark _ | rfl)) (pss_one (ps_ret pe_bl))
    pss_nil)
    (pss_one (ps_ret (pe_cmpR (XL.op_eqE K rfl hr.units) (pe_lc (own := [("one", 3)]) (g := gName 3) rfl sc_law_is_expression.nd (pi_tup_k K rfl (pe_slice (sl_tup_k K rfl) (pv 0) (po_some pe_int) po_none)) (blkOk_by (own := [("one", 3)]) (N := N_law_is_expression) (sc := defScope s_law_is_expression) (by decide +kernel)) (fun _ _ _ _ _ => (pg_name (i := 3) sc_law_is_expression.nd rfl (by first | exact Or.inl rfl | exact Or.inr rfl))) (fun _ _ _ _ _ => (pts_one (pt_not (pt_val (pe_call G (hr.mono (by omega)) rfl t.g_law_is_expression t.F_law_is_expression.kp (b_law_is_expression t) .nil pass0 (pa_cons (pv 3) (pa_cons (pe_op op_sub (pv 1) pe_int) pa_nil))))))) (fun _ _ _ _ _ => (pv 3))) (pe_lst pa_nil) (by first | exact nomark _ | rfl))))))))), ?_⟩
  refine ⟨_, rfl, rfl, _, rfl, iteD (fun c => ?_) (fun c => ?_)⟩
  · have z : m = 0 := by have := V.int.inj c; omega
    subst z
    have e0 : e.ok 0 = false := by cases e <;> rfl
    have q := q H (Same.refl _)
    rw [e0] at q
    exact ⟨_, rfl, _, _, rfl, rfl, q⟩
  obtain ⟨k, rfl⟩ : ∃ k, m = k + 1 := ⟨m - 1, by have : m ≠ 0 := fun z => c (by rw [z]; rfl); omega⟩
  refine ⟨_, rfl, v, e.d, rfl, hd, _, rfl, ?_⟩
  cases e with
  | num i =>
    have q := q H (Same.refl _)
    refine ⟨_, rfl, _, _, rfl, rfl, ?_⟩
    show Q (.bl (decide ((0 : Int) < ((k + 1 : Nat) : Int)))) H
    rw [decide_eq_true (by omega : (0 : Int) < ((k + 1 : Nat) : Int))]
    exact q
  | node l as =>
    cases hd with
    | @tup a xs _ ha hx =>
    cases hx with
    | @cons v0 vs _ _ h0 hx =>
    cases h0
    have hT : Dt H (.ref a) (GE.node l as).d := .tup ha (.cons (.str _) hx)
    have hlen : vs.length = as.length := by rw [hx.length, GE.ds_map, List.length_map]
    refine iteF ⟨_, rfl, _, _, _, _, _, rfl, .ty _, hT.ty, kit_tuple _, _, rfl, iteF ?_⟩
    refine ⟨_, rfl, (by show 0 ≤ sizeLine; decide), fun p1 hp1 => ?_⟩
    have s1 := same_new (o := .tup []) hp1
    have ha1 := s1 _ _ ha
    refine ⟨a, p1, _, rfl, rfl, SqT.of ha1, SqT.of upd_same, _, rfl, iteF ?_⟩
    generalize upd H p1 (.tup []) = H1 at *
    refine ⟨_, rfl, a, _, _, V.str (S l), rfl, rfl, SqT.of ha1, at0, _, _, _, _, _, rfl, .ty _, (Dt.str _).ty, kit_str _, _, rfl, iteF ?_⟩
    refine fun dp hdp => ⟨upd_same, pkv, rfl, by decide, dp, rfl, ?_⟩
    have s2 : Same H1 (upd (upd H1 dp (.dK [])) dp (.dK (mergeK [] pkv))) := by rw [upd_upd]; exact same_new hdp
    have e2 : (upd (upd H1 dp (.dK [])) dp (.dK (mergeK [] pkv))) dp = some (.dK (mergeK [] pkv)) := upd_same
    generalize upd (upd H1 dp (.dK [])) dp (.dK (mergeK [] pkv)) = H2 at *
    have ha2 := s2 _ _ ha1
    have s02 := s1.trans s2
    refine ⟨.inl ⟨_, .inl e2⟩, _, rfl, a, _, _, V.str (S l), rfl, rfl, SqT.of ha2, at0, 1, rfl, _, DGet.k (k := .inr (S l)) e2, ?_⟩
    rw [pkv_val]
    cases hp : parts l with
    | none =>
      have z : (GE.node l as).ok (k + 1) = false := by rw [GE.ok, hp]; rfl
      rw [z] at q
      refine ⟨_, rfl, a, _, rfl, .inr (SqT.of ha2), _, rfl, _, _, rfl, rfl, rfl, _, rfl, iteDN (fun c => ?_) (fun c => ?_)⟩
      · exact q _ s02
      · have := V.int.inj c
        rw [List.length_cons] at this
        omega
    | some j =>
      have hj2 := (parts_word hp).2
      refine ⟨_, rfl, a, _, rfl, .inr (SqT.of ha2), _, rfl, _, _, rfl, rfl, rfl, _, rfl, iteDN (fun c => ?_) (fun c => ?_)⟩
      · have z : (GE.node l as).ok (k + 1) = false := by
          rw [GE.ok, hp, decide_eq_false, Bool.false_and]
          intro z
          refine c ?_
          have z2 := Option.some.inj z
          rw [List.length_cons, hlen, ← z2]
          rfl
        rw [z] at q
        exact q _ s02
      have c2 : as.length = j := by
        have c3 := V.int.inj c
        rw [List.length_cons, hlen] at c3
        omega
      have z : (GE.node l as).ok (k + 1) = GE.oks k as := by rw [GE.ok, hp, c2, decide_eq_true rfl, Bool.true_and]
      rw [z] at q
      refine ⟨_, rfl, _, rfl, a, _, rfl, SqT.of ha2, ?_, fun p hp3 => ?_⟩
      · intro ⟨z1, _⟩
        have := HT.sIx_nat (V.str (S l) :: vs).length 0 1
        rw [show ((1 : Nat) : Int) = (1 : Int) from rfl] at this
        rw [this, List.length_cons] at z1
        omega
      rw [cutV_tail]
      have s3 := same_new (o := .tup vs) hp3
      have e3 : (upd H2 p (.tup vs)) p = some (.tup vs) := upd_same
      generalize upd H2 p (.tup vs) = H3 at *
      have s03 := s02.trans s3
      refine ⟨p, rfl, ⟨_, SqT.of e3⟩, fun D hD => ?_⟩
      have hx' := hx.mono s03
      refine lc_it (walk_tup (K := K) (xs := vs)) (fun i H' => Same H3 (hid D H') ∧ ∃ us, H' D = some (.lst us) ∧ decide (us = []) = (as.take i).all (GE.ok k) ∧ us.length ≤ i)
        ⟨by rw [hid_upd]; exact same_hid hD (Same.refl _), [], upd_same, rfl, Nat.le_refl _⟩ (fun i H' _ ⟨p1, _⟩ => SqT.of (hid_le _ _ (p1 p _ e3))) (fun i x H4 H5 hi ⟨p1, us, p2, p3, p4⟩ y => ?_) (fun H4 ⟨p1, us, p2, p3, p4⟩ => ?_)
      · obtain ⟨rfl, hxi⟩ := y
        obtain ⟨d, hd1, hd2⟩ := hx'.get hxi
        rw [GE.ds_map, List.getElem?_map] at hd1
        obtain ⟨e, he, rfl⟩ := Option.map_eq_some_iff.mp hd1
        have hil : i < as.length := (List.getElem?_eq_some_iff.mp he).1
        refine ⟨rfl, _, rfl, _, rfl, _, _, rfl, rfl, x, k, e, ?_, by omega, (hd2.mono p1).mono hid_le, fun H6 s6 => ?_⟩
        · have : (((k + 1 : Nat)) : Int) - 1 = (k : Int) := by omega
          show [x, V.int (((k + 1 : Nat) : Int) - 1)] = _
          rw [this]
        · refine ⟨_, rfl, iteBN (fun hk => ?_) (fun hk => ?_)⟩
          · refine ⟨_, rfl, _, s6 _ _ p2, small1000 (by omega), ?_, _, upd_same, ?_, ?_⟩
            · rw [hid_upd]; exact p1.trans (hid_same s6)
            · rw [List.take_add_one, he, List.all_append]
              simp [hk]
            · rw [List.length_append, List.length_singleton]; omega
          · refine ⟨p1.trans (hid_same s6), us, s6 _ _ p2, ?_, by omega⟩
            rw [List.take_add_one, he, List.all_append, p3]
            simp [hk]
      · rw [hlen, List.take_length, ← GE.oks_all] at p3
        refine ⟨(by show 0 ≤ sizeLine; decide), fun pe hpe => ?_⟩
        have s5 := same_new (o := .lst []) hpe
        refine ⟨D, pe, _, rfl, rfl, SqL.of (s5 _ _ p2), SqL.of upd_same, ?_⟩
        rw [p3]
        exact q _ (s03.trans ((p1.trans hid_le).trans s5))
theorem ok_law_is_expression_lv (t : T w K mg) : ∀ n : Nat, FnOk P w K mg base CX0 (n + 1) t.a_law_is_expression t.d_law_is_expression ["thing", "most"] (spLawE n)
  | 0 => none_sp fun vs H Q E h => by
    obtain ⟨v, m, e, _, h1, _⟩ := h
    omega
  | n + 1 => ok_law_is_expression_n t (ok_law_is_expression_lv t n)
theorem ok_law_is_expression (t : T w K mg) : FnOk P w K mg base CX0 7 t.a_law_is_expression t.d_law_is_expression ["thing", "most"] (spLawE 6) := ok_law_is_expression_lv t 6
end K55
namespace K55
open PySem PySem.Spec PyProof.Rows L2 PreX FG
variable {P : Program} {w : World} {K : PySem.W.Frag} {mg : Str → Option Value} {base : Heap}

def GS.isWait : GS → Bool | .wait => true | _ => false
theorem eqv_wait (s : GS) : PyData.eqv s.d (.tuple [.str (S wWait)]) = GS.isWait s := by
  cases s with
  | wait => exact (Shp.tup (k := 0) (.cons (.str (word_asc (by simp))) .nil)).refl
  | cell a b => rfl
  | skip a b => rfl
  | other a b c => show (_ && false) = false; exact Bool.and_false _
def spLawStep : Sp := fun vs H Q _ => ∃ (v : V) (s : GS) (nb : Addr) (names : List L) (m : Int), vs = [v, .ref nb, .int m] ∧ Dt H v s.d ∧ s.plain ∧ SeqAt.shaped s.d = true ∧ H nb = some (.lst (names.map fun x => V.str (S x))) ∧
  (∀ w n e, s = .other w n e → n.length ≤ sizeLine) ∧ ∀ H', Same H H' → Q (.bl (s.ok names m)) H'
theorem ok_law_is_step (t : T w K mg) : FnOk P w K mg base CX0 8 t.a_law_is_step t.d_law_is_step ["thing", "names", "behind"] spLawStep := by
  refine t.F_law_is_step.ok sc_law_is_step (fun vs H Q E h => ?_) (fun cdv A outer s H vs Q E hr h => ?_)
  · obtain ⟨v, s, nb, names, m, rfl, _⟩ := h
    rfl
  obtain ⟨v, s, nb, names, m, rfl, hd, hp, hsh, hn, hl, q⟩ := h
  refine ⟨_, PSs.nox ((pss_cons (ps_if (pt_cmpR (op_eqD_k K rfl hr.units) (pv 0) (pe_tup (pa_cons pe_str pa_nil)) (by first | exact nomark _ | rfl)) (pss_one (ps_ret pe_bl))
    pss_nil)
    (pss_cons (ps_if (PW.pt (pw_or (pt_not (pt_val (pe_callB (call_isi_k K rfl) (by rfl) t.z_isinstance (by decide +kernel) (pa_cons (pv 0) (pa_cons (pe_bltn (v := .ty "tuple") (by rfl) t.z_tuple (by decide +kernel) rfl) pa_nil))))) (pw_or (pt_cmpR op_ne (pe_callB (call_len_seq_k K rfl) (by rfl) t.z_len (by decide +kernel) (pa_cons (pv 0) pa_nil)) pe_int (by first | exact nomark _ | rfl)) (pw_or1 (pt_not (pt_val (pe_callB (call_isi_k K rfl) (by rfl) t.z_isinstance (by decide +kernel) (pa_cons (pe_ix (ix_tup_k K rfl) (pv 0) pe_int (fun _ _ => rfl)) (pa_cons (pe_bltn (v := .ty "str") (by rfl) t.z_str (by decide +kernel) rfl) pa_nil))))))))) (pss_one (ps_ret pe_bl))
    pss_nil)
    (pss_cons (ps_asg (pv 0) (pg_tup rfl (pgs_cons (pg_name (i := 3) sc_law_is_step.nd rfl (by first | exact Or.inl rfl | exact Or.inr rfl)) (pgs_cons (pg_name (i := 4) sc_law_is_step.nd rfl (by first | exact Or.inl rfl | exact Or.inr rfl)) (pgs_cons (pg_name (i := 5) sc_law_is_step.nd rfl (by first | exact Or.inl rfl | exact Or.inr rfl)) pgs_nil)))))
    (pss_cons (ps_if (pt_cmpR op_eq (pv 3) pe_str (by first | exact nomark _ | rfl)) (pss_one (ps_ret (pe_and (pe_call (ok_law_is_expression t) (hr.mono (by decide)) rfl t.g_law_is_expression t.F_law_is_expression.kp (b_law_is_expression t) .nil pass0 (pa_cons (pv 4) (pa_cons pe_int pa_nil))) (pe_and (pe_call (ok_law_is_whole t) (hr.mono (by decide)) rfl t.g_law_is_whole t.F_law_is_whole.kp (b_law_is_whole t) .nil pass0 (pa_cons (pv 5) pa_nil)) (pe_and (pe_cmpR op_gt (pv 5) pe_int (by first | exact nomark _ | rfl)) (pe_one (pe_cmpR op_le (pv 5) (pv 2) (by first | exact nomark _ | rfl))))))))
    pss_nil)
    (pss_cons (ps_if (pt_cmpR op_eq (pv 3) pe_str (by first | exact nomark _ | rfl)) (pss_one (ps_ret (pe_and (pe_call (ok_law_is_expression t) (hr.mono (by decide)) rfl t.g_law_is_expression t.F_law_is_expression.kp (b_law_is_expression t) .nil pass0 (pa_cons (pv 4) (pa_cons pe_int pa_nil))) (pe_one (pe_call (ok_law_is_expression t) (hr.mono (by decide)) rfl t.g_law_is_expression t.F_law_is_expression.kp (b_law_is_expression t) .nil pass0 (pa_cons (pv 5) (pa_cons pe_int pa_nil)))))))
    pss_nil)
    (pss_cons (ps_if (pt_cmpR op_eq (pv 3) pe_str (by first | exact nomark _ | rfl)) (pss_one (ps_ret (pe_and (pe_call (ok_law_is_name t) (hr.mono (by decide)) rfl t.g_law_is_name t.F_law_is_name.kp (b_law_is_name t) .nil pass0 (pa_cons (pv 4) pa_nil)) (pe_one (pe_call (ok_law_is_expression t) (hr.mono (by decide)) rfl t.g_law_is_expression t.F_law_is_expression.kp (b_law_is_expression t) .nil pass0 (pa_cons (pv 5) (pa_cons pe_int pa_nil)))))))
    pss_nil)
    (pss_one (ps_ret (pe_and (pe_cmpR (op_in_seq_k K rfl) (pv 3) (pe_lst (pa_cons pe_str (pa_cons pe_str pa_nil))) (by first | exact nomark _ | rfl)) (pe_and (pe_call (ok_law_is_name t) (hr.mono (by decide)) rfl t.g_law_is_name t.F_law_is_name.kp (b_law_is_name t) .nil pass0 (pa_cons (pv 4) pa_nil)) (pe_and (pe_cmpR (op_in_seq_k K rfl) (pv 4) (pv 1) (by first | exact nomark _ | rfl)) (pe_one (pe_call (ok_law_is_expression t) (hr.mono (by decide)) rfl t.g_law_is_expression t.F_law_is_expression.kp (b_law_is_expression t) .nil pass0 (pa_cons (pv 5) (pa_cons pe_int pa_nil)))))))))))))))), ?_⟩
  refine ⟨_, rfl, (by show 1 ≤ sizeLine; decide), fun p1 hp1 => ?_⟩
  have s1 := same_new (o := .tup [.str (Str.ofString "wait")]) hp1
  have d1 : Dt (upd H p1 (.tup [.str (Str.ofString "wait")])) (.ref p1) (.tuple [.str (S wWait)]) := .tup upd_same (.cons (by rw [ofS]; exact .str _) .nil)
  have hd := hd.mono s1
  have hn := s1 _ _ hn
  refine ⟨s.d, _, hd.dp, d1.dp, hsh, (Shp.tup (k := 0) (.cons (.str (word_asc (by simp))) .nil)).shaped (by decide), _, rfl, ?_⟩
  rw [eqv_wait]
  generalize upd H p1 (.tup [.str (Str.ofString "wait")]) = H0 at *
  have q : ∀ H', Same H0 H' → Q (.bl (s.ok names m)) H' := fun H' s' => q H' (s1.trans s')
  obtain ⟨l, ds, es, hds⟩ := gs_shape s
  have hdt : Dt H0 v (.tuple (.str (S l) :: ds)) := es ▸ hd
  obtain ⟨a, vs0, rfl, ha, hx⟩ := dt_tup hdt
  cases hx with
  | @cons v0 vs _ _ h0 hx =>
  cases dt_str h0
  cases s with
  | wait => exact q H0 (Same.refl _)
  | cell e1 e2 =>
    cases es
    obtain ⟨v1, v2, rfl, h1, h2⟩ := dtA2 hx
    refine ⟨_, rfl, _, _, _, _, _, rfl, .ty _, hdt.ty, kit_tuple _, _, rfl, iteF ?_⟩
    refine ⟨_, rfl, a, _, rfl, .inr (SqT.of ha), rfl, _, rfl, iteF ?_⟩
    refine ⟨_, rfl, a, _, _, _, rfl, rfl, SqT.of ha, at0, _, _, _, _, _, rfl, .ty _, (Dt.str _).ty, kit_str _, _, rfl, iteF ?_⟩
    refine ⟨_, rfl, a, _, rfl, SqT.of ha, rfl, _, _, rfl, _, _, rfl, _, _, rfl, rfl, ?_⟩
    refine ⟨_, rfl, rfl, _, rfl, iteD (fun c => absurd (vstr.mp c) (by decide)) (fun _ => ?_)⟩
    refine ⟨_, rfl, rfl, _, rfl, iteD (fun _ => ?_) (fun c => absurd (vstr.mpr rfl) c)⟩
    refine ⟨_, rfl, v1, 5, e1, rfl, by decide, h1, fun H1 s1 => ⟨_, rfl, iteB (fun c => ?_) (fun c => ?_)⟩⟩
    · refine ⟨_, rfl, v2, 5, e2, rfl, by decide, h2.mono s1, fun H2 s2 => ?_⟩
      have z : (GS.cell e1 e2).ok names m = e2.ok 5 := by
        show (e1.ok 5 && e2.ok 5) = _
        rw [c, Bool.true_and]
      rw [z] at q
      exact q _ (s1.trans s2)
    · have z : (GS.cell e1 e2).ok names m = false := by
        show (e1.ok 5 && e2.ok 5) = _
        rw [c, Bool.false_and]
      rw [z] at q
      exact q _ s1
  | skip e1 k =>
    cases es
    obtain ⟨v1, v2, rfl, h1, h2⟩ := dtA2 hx
    cases dt_int h2
    refine ⟨_, rfl, _, _, _, _, _, rfl, .ty _, hdt.ty, kit_tuple _, _, rfl, iteF ?_⟩
    refine ⟨_, rfl, a, _, rfl, .inr (SqT.of ha), rfl, _, rfl, iteF ?_⟩
    refine ⟨_, rfl, a, _, _, _, rfl, rfl, SqT.of ha, at0, _, _, _, _, _, rfl, .ty _, (Dt.str _).ty, kit_str _, _, rfl, iteF ?_⟩
    refine ⟨_, rfl, a, _, rfl, SqT.of ha, rfl, _, _, rfl, _, _, rfl, _, _, rfl, rfl, ?_⟩
    refine ⟨_, rfl, rfl, _, rfl, iteD (fun _ => ?_) (fun c => absurd (vstr.mpr rfl) c)⟩
    refine ⟨_, rfl, v1, 5, e1, rfl, by decide, h1, fun H1 s1 => ⟨_, rfl, iteB (fun c => ?_) (fun c => ?_)⟩⟩
    · refine ⟨_, rfl, .int k, .int k, rfl, .int k, _, rfl, iteT ?_⟩
      refine ⟨_, rfl, _, _, rfl, rfl, _, rfl, iteD (fun c2 => ?_) (fun c2 => ?_)⟩
      · refine ⟨_, rfl, _, rfl, _, _, rfl, rfl, ?_⟩
        have z : (GS.skip e1 k).ok names m = decide (k ≤ m) := by
          show (e1.ok 5 && (decide (1 ≤ k) && decide (k ≤ m))) = _
          rw [c, decide_eq_true (show (1 : Int) ≤ k by omega)]; simp
        rw [z] at q
        exact q _ s1
      · have z : (GS.skip e1 k).ok names m = false := by
          show (e1.ok 5 && (decide (1 ≤ k) && decide (k ≤ m))) = _
          rw [decide_eq_false (show ¬ (1 : Int) ≤ k by omega)]; simp
        rw [z] at q
        exact q _ s1
    · have z : (GS.skip e1 k).ok names m = false := by
        show (e1.ok 5 && (decide (1 ≤ k) && decide (k ≤ m))) = _
        rw [c, Bool.false_and]
      rw [z] at q
      exact q _ s1
  | other _ n e1 =>
    cases es
    obtain ⟨v1, v2, rfl, h1, h2⟩ := dtA2 hx
    cases dt_str h1
    obtain ⟨hp1, hp2⟩ := hp
    refine ⟨_, rfl, _, _, _, _, _, rfl, .ty _, hdt.ty, kit_tuple _, _, rfl, iteF ?_⟩
    refine ⟨_, rfl, a, _, rfl, .inr (SqT.of ha), rfl, _, rfl, iteF ?_⟩
    refine ⟨_, rfl, a, _, _, _, rfl, rfl, SqT.of ha, at0, _, _, _, _, _, rfl, .ty _, (Dt.str _).ty, kit_str _, _, rfl, iteF ?_⟩
    refine ⟨_, rfl, a, _, rfl, SqT.of ha, rfl, _, _, rfl, _, _, rfl, _, _, rfl, rfl, ?_⟩
    refine ⟨_, rfl, rfl, _, rfl, iteD (fun c => absurd (vstr.mp c) hp2) (fun _ => ?_)⟩
    refine ⟨_, rfl, rfl, _, rfl, iteD (fun c => absurd (vstr.mp c) hp1) (fun _ => ?_)⟩
    have zz : (GS.other l n e1).ok names m = ((decide (l = wGive) || decide (l = wFork) || decide (l = wCall)) && isName n && e1.ok 5 && (decide (l = wGive) || decide (n ∈ names))) := rfl
    refine ⟨_, rfl, rfl, _, rfl, iteD (fun cg => ?_) (fun cg => ?_)⟩
    · have cg : l = wGive := vstr.mp cg
      rw [decide_eq_true cg, Bool.true_or, Bool.true_or, Bool.true_or, Bool.true_and, Bool.and_true] at zz
      rw [zz] at q
      refine ⟨_, rfl, n, rfl, hl _ _ _ rfl, fun H1 s1 => ⟨_, rfl, iteB (fun c => ?_) (fun c => ?_)⟩⟩
      · refine ⟨_, rfl, v2, 5, e1, rfl, by decide, h2.mono s1, fun H2 s2 => ?_⟩
        rw [c, Bool.true_and] at q
        exact q _ (s1.trans s2)
      · rw [c, Bool.false_and] at q
        exact q _ s1
    have cg : ¬ l = wGive := fun z => cg (vstr.mpr z)
    rw [decide_eq_false cg, Bool.false_or, Bool.false_or] at zz
    rw [zz] at q
    refine ⟨_, rfl, (by show 2 ≤ sizeLine; decide), fun p hp => ?_⟩
    have s0 := same_new (o := .lst [.str (Str.ofString "fork"), .str (Str.ofString "call")]) hp
    have iv : inV (V.str (S l)) [.str (Str.ofString "fork"), .str (Str.ofString "call")] = (decide (l = wFork) || decide (l = wCall)) := by
      have q := inV_strs l [wFork, wCall]
      have e1 : ([wFork, wCall].map fun x => V.str (S x)) = [.str (Str.ofString "fork"), .str (Str.ofString "call")] := by
        simp only [ofS]; rfl
      rw [e1] at q
      rw [q]
      simp only [List.mem_cons, List.not_mem_nil, or_false, Bool.decide_or]
    refine ⟨p, _, rfl, .inl (SqL.of upd_same), rfl, rfl, _, rfl, ?_⟩
    show if inV (V.str (S l)) [.str (Str.ofString "fork"), .str (Str.ofString "call")] = true then _ else _
    rw [iv]
    generalize upd H0 p (.lst [.str (Str.ofString "fork"), .str (Str.ofString "call")]) = H1 at *
    refine iteB (fun c => ?_) (fun c => ?_)
    · rw [c, Bool.true_and] at q
      refine ⟨_, rfl, n, rfl, hl _ _ _ rfl, fun H2 s2 => ⟨_, rfl, iteB (fun c1 => ?_) (fun c1 => ?_)⟩⟩
      · rw [c1, Bool.true_and] at q
        refine ⟨_, rfl, _, rfl, nb, _, rfl, .inl (SqL.of (s2 _ _ (s0 _ _ hn))), rfl, ?_, ?_⟩
        · rw [List.all_map, List.all_eq_true]
          intro x _
          rfl
        refine ⟨_, rfl, ?_⟩
        show if inV (V.str (S n)) (names.map fun x => V.str (S x)) = true then _ else _
        rw [inV_strs]
        refine iteB (fun c2 => ?_) (fun c2 => ?_)
        · refine ⟨_, rfl, v2, 5, e1, rfl, by decide, (h2.mono s0).mono s2, fun H3 s3 => ?_⟩
          rw [c2, Bool.and_true] at q
          exact q _ ((s0.trans s2).trans s3)
        · rw [c2, Bool.and_false] at q
          exact q _ (s0.trans s2)
      · rw [c1, Bool.false_and, Bool.false_and] at q
        exact q _ (s0.trans s2)
    · rw [c, Bool.false_and, Bool.false_and, Bool.false_and] at q
      exact q _ s0
end K55
namespace FG
open PySem PySem.NumText L2
theorem stepR_shp {r r' : L} {g : GS} (h : stepR r = some (g, r')) : Shp 6 g.d := by
  unfold stepR at h
  have hs : ∀ c ∈ r.takeWhile small, small c = true := takeWhile_mem
  generalize r.takeWhile small = w at *
  have asc : ∀ {n : L}, (∀ c ∈ n, small c = true) → ∀ c ∈ n, c < 128 := fun {n} hn c hc => by
    have := hn c hc
    unfold small at this
    simp only [Bool.and_eq_true, decide_eq_true_eq] at this
    omega
  split at h
  · cases h
    exact .tup (.cons (.str (word_asc (by simp))) .nil)
  split at h
  · cases h
  split at h
  · obtain ⟨x, hx, h⟩ := Option.bind_eq_some_iff.mp h
    split at h
    · cases h
    obtain ⟨y, hy, h⟩ := Option.map_eq_some_iff.mp h
    injection h with h1 h2
    subst h1 h2
    exact .tup (.cons (.str (word_asc (by simp))) (.cons (ge_shp (exprR_sound 5 _ _ _ hx).2) (.cons (ge_shp (exprR_sound 5 _ _ _ hy).2) .nil)))
  split at h
  · obtain ⟨x, hx, h⟩ := Option.bind_eq_some_iff.mp h
    split at h
    · cases h
    obtain ⟨y, hy, h⟩ := Option.map_eq_some_iff.mp h
    injection h with h1 h2
    subst h1 h2
    exact .tup (.cons (.str (word_asc (by simp))) (.cons (ge_shp (exprR_sound 5 _ _ _ hx).2) (.cons (.int _) .nil)))
  split at h
  · cases h
  obtain ⟨y, hy, h⟩ := Option.map_eq_some_iff.mp h
  injection h with h1 h2
  subst h1 h2
  exact .tup (.cons (.str (asc hs)) (.cons (.str (asc takeWhile_mem)) (.cons (ge_shp (exprR_sound 5 _ _ _ hy).2) .nil)))
theorem stepsR_shp : ∀ {k : Nat} {first : Bool} {r : L} {ss : List GS} {r' : L}, stepsR k first r = some (ss, r') → ∀ s ∈ ss, Shp 6 s.d
  | 0, _, _, _, _, h => by cases h
  | k + 1, first, r, ss, r', h => by
    rw [stepsR] at h
    by_cases hh : r.take 1 = (if first = true then [32] else [44])
    · rw [if_pos hh] at h
      cases hs : stepR (r.drop (if first = true then 1 else 2)) with
      | none => rw [hs] at h; cases h
      | some x =>
        obtain ⟨g, r1⟩ := x
        rw [hs] at h
        have h : (if first = false ∧ r.take 2 ≠ [44, 32] then none else (stepsR k false r1).map fun x => (g :: x.1, x.2)) = some (ss, r') := h
        split at h
        · cases h
        obtain ⟨y, hy, h⟩ := Option.map_eq_some_iff.mp h
        injection h with e1 e2
        subst e1 e2
        intro s hm
        rcases List.mem_cons.mp hm with rfl | hm
        · exact stepR_shp hs
        · exact stepsR_shp (ss := y.1) (r' := y.2) hy s hm
    · rw [if_neg hh] at h
      cases h
      intro s hm; cases hm
theorem helperR_shp {r r' : L} {h : Helper} (e : helperR r = some (h, r')) : ∀ s ∈ h.2, Shp 6 s.d := by
  unfold helperR at e
  split at e
  · cases e
  obtain ⟨x, hx, e⟩ := Option.map_eq_some_iff.mp e
  injection e with e1 e2
  subst e1 e2
  exact stepsR_shp (ss := x.1) (r' := x.2) hx
theorem rawR_shp : ∀ {k : Nat} {r : L} {p : List Helper}, rawR k r = some p → ∀ h ∈ p, ∀ s ∈ h.2, Shp 6 s.d
  | 0, _, _, h => by cases h
  | k + 1, r, p, h => by
    rw [rawR] at h
    split at h
    · cases h
    · rename_i g r1 hg
      have h0 := helperR_shp hg
      split at h
      · cases h
        intro x hx
        rw [List.mem_singleton.mp hx]
        exact h0
      split at h
      · cases h
      obtain ⟨q, hq, h⟩ := Option.map_eq_some_iff.mp h
      subst h
      intro x hx
      rcases List.mem_cons.mp hx with rfl | hx
      · exact h0
      · exact rawR_shp hq x hx
theorem shStep_lo (s : GS) : 1 ≤ (shStep s).length ∧ ∀ w n e, s = .other w n e → n.length ≤ (shStep s).length := by
  cases s with
  | wait => exact ⟨by show 1 ≤ wWait.length; decide, fun w n e z => by cases z⟩
  | cell a b => exact ⟨by show 1 ≤ (wCell ++ [32] ++ sh a ++ [32] ++ sh b).length; simp only [List.length_append, List.length_singleton]; omega, fun w n e z => by cases z⟩
  | skip a b => exact ⟨by show 1 ≤ (wSkip ++ [32] ++ sh a ++ [32] ++ dig b).length; simp only [List.length_append, List.length_singleton]; omega, fun w n e z => by cases z⟩
  | other w n e =>
    have h : (shStep (.other w n e)).length = w.length + 1 + n.length + 1 + (sh e).length := by
      show (w ++ [32] ++ n ++ [32] ++ sh e).length = _
      simp only [List.length_append, List.length_singleton]
    refine ⟨by omega, fun w' n' e' z => ?_⟩
    cases z
    omega
theorem steps_len' : ∀ ss : List GS, ss.length ≤ (joinL [44, 32] (ss.map shStep)).length
  | [] => Nat.zero_le _
  | [a] => (shStep_lo a).1
  | a :: c :: u => by
    have ih := steps_len' (c :: u)
    have h1 := (shStep_lo a).1
    show (a :: c :: u).length ≤ (shStep a ++ [44, 32] ++ joinL [44, 32] ((c :: u).map shStep)).length
    simp only [List.length_append, List.length_cons, List.length_nil] at ih ⊢
    omega
theorem shHelper_bounds (h : Helper) : h.1.length ≤ (shHelper h).length ∧ h.2.length ≤ (shHelper h).length ∧ ∀ s ∈ h.2, (shStep s).length ≤ (shHelper h).length := by
  obtain ⟨n, ss⟩ := h
  cases ss with
  | nil =>
    show n.length ≤ (n ++ [58]).length ∧ 0 ≤ (n ++ [58]).length ∧ ∀ s ∈ ([] : List GS), _
    refine ⟨by simp, Nat.zero_le _, fun s hs => by cases hs⟩
  | cons s r =>
    have e : shHelper (n, s :: r) = n ++ [58, 32] ++ joinL [44, 32] ((s :: r).map shStep) := rfl
    have h1 := steps_len' (s :: r)
    have h2 : ∀ x ∈ s :: r, (shStep x).length ≤ (joinL [44, 32] ((s :: r).map shStep)).length := fun x hx => mem_joinL_len _ (List.mem_map_of_mem hx)
    rw [e]
    generalize joinL [44, 32] ((s :: r).map shStep) = J at *
    simp only [List.length_append, List.length_cons, List.length_nil] at h1 ⊢
    refine ⟨by omega, by omega, fun x hx => ?_⟩
    have := h2 x hx
    omega
def formFrom : L → List Helper → Bool
  | _, [] => true
  | a, h :: t => isName h.1 && ltL a h.1 && formFrom h.1 t
theorem formFrom_eq : ∀ (a : L) (t : List Helper), formFrom a t = (t.all (fun h => isName h.1) && rising (a :: t.map (·.1)))
  | _, [] => rfl
  | a, h :: t => by
    rw [formFrom, formFrom_eq h.1 t, List.map_cons, rising, List.all_cons]
    cases isName h.1 <;> cases ltL a h.1 <;> simp
theorem form_eq (p : List Helper) : formFrom [] p = form p := by
  rw [formFrom_eq]
  unfold form
  cases p with
  | nil => rfl
  | cons h t =>
    rw [List.map_cons, rising]
    by_cases hn : isName h.1 = true
    · have : ltL [] h.1 = true := by
        unfold ltL isName at *
        cases hh : h.1 with
        | nil => rw [hh] at hn; simp at hn
        | cons a r => simp
      rw [this, Bool.true_and]
    · rw [List.all_cons, Bool.eq_false_iff.mpr hn]
      simp
end FG
namespace K55
open PySem PySem.Spec PyProof.Rows L2 PreX FG
variable {P : Program} {w : World} {K : PySem.W.Frag} {mg : Str → Option Value} {base : Heap}

theorem lawRaw_ok {l : L} {p : List Helper} (h : lawRaw l = some p) (hl : l.length ≤ 99999) : pOk p ∧ ∀ x ∈ p, ∀ s ∈ x.2, SeqAt.shaped s.d = true := by
  unfold lawRaw at h
  split at h
  · cases h
    exact ⟨⟨Nat.zero_le _, fun x hx => by cases hx⟩, fun x hx => by cases hx⟩
  obtain ⟨_, h2, h3⟩ := rawR_sound h
  have h4 := rawR_shp h
  have h5 := prog_len_le (p := p)
  rw [h2] at h5
  refine ⟨⟨by omega, fun x hx => ?_⟩, fun x hx s hs => (h4 x hx s hs).shaped (by decide)⟩
  have h6 : (shHelper x).length ≤ l.length := by
    rw [← h2]
    exact mem_joinL_len _ (List.mem_map_of_mem hx)
  obtain ⟨b1, b2, b3⟩ := shHelper_bounds x
  have hz : 99999 ≤ sizeLine := by decide
  refine ⟨by omega, by omega, fun s hs => ⟨h3 x hx s hs, fun w n e z => ?_⟩⟩
  have := (shStep_lo s).2 w n e z
  have := b3 s hs
  omega
def spLawWrong : Sp := fun vs H Q _ => ∃ (v : V) (p : List Helper), vs = [v] ∧ Dt H v (pd p) ∧ pOk p ∧ (∀ x ∈ p, ∀ s ∈ x.2, SeqAt.shaped s.d = true) ∧ ∀ u H', Same H H' → decide (u = .non) = isProg p → Q u H'
theorem ok_law_wrong (t : T w K mg) : FnOk P w K mg base CX0 9 t.a_law_wrong t.d_law_wrong ["program"] spLawWrong := by
  refine t.F_law_wrong.ok sc_law_wrong (fun vs H Q E h => ?_) (fun cdv A outer s H vs Q E hr h => ?_)
  · obtain ⟨v, p, rfl, _⟩ := h
    rfl
  obtain ⟨v, p, rfl, hd, hp, hsh, q⟩ := h
  have hd0 := hd
  obtain ⟨a, vs, rfl, ha, hx⟩ := dt_lst hd
  have hlen : vs.length = p.length := dtA_len hx
  have no : ∀ {u : Addr} {H' : Hp}, Same H H' → isProg p = false → Q (.ref u) H' := fun s' z => q _ _ s' (by rw [z]; exact decide_eq_false fun z => nomatch z)
  have nf : form p = false → isProg p = false := fun z => by unfold isProg; rw [z, Bool.false_and]
  refine ⟨_, PSs.nox ((pss_cons (ps_if (pt_not (pt_val (pe_callB (call_isi_k K rfl) (by rfl) t.z_isinstance (by decide +kernel) (pa_cons (pv 0) (pa_cons (pe_bltn (v := .ty "list") (by rfl) t.z_list (by decide +kernel) rfl) pa_nil))))) (pss_one (ps_ret (pe_tup (pa_cons pe_non (pa_cons pe_non pa_nil)))))
    pss_nil)
    (pss_cons (ps_set (i := 1) sc_law_wrong.nd rfl (by first | exact Or.inl rfl | exact Or.inr rfl) pe_str)
    (pss_cons (ps_for PassesOwn.never rfl (pi_list_k K rfl (pv 0)) (pg_name (i := 2) sc_law_wrong.nd rfl (by first | exact Or.inl rfl | exact Or.inr rfl))
    (pss_cons (ps_if (PW.pt (pw_or (pt_not (pt_val (pe_callB (call_isi_k K rfl) (by rfl) t.z_isinstance (by decide +kernel) (pa_cons (pv 2) (pa_cons (pe_bltn (v := .ty "tuple") (by rfl) t.z_tuple (by decide +kernel) rfl) pa_nil))))) (pw_or (pt_cmpR op_ne (pe_callB (call_len_seq_k K rfl) (by rfl) t.z_len (by decide +kernel) (pa_cons (pv 2) pa_nil)) pe_int (by first | exact nomark _ | rfl)) (pw_or1 (pt_not (pt_val (pe_call (ok_law_is_name t) (hr.mono (by decide)) rfl t.g_law_is_name t.F_law_is_name.kp (b_law_is_name t) .nil pass0 (pa_cons (pe_ix (ix_tup_k K rfl) (pv 2) pe_int (fun _ _ => rfl)) pa_nil)))))))) (pss_one (ps_ret (pe_tup (pa_cons pe_non (pa_cons pe_non pa_nil)))))
    pss_nil)
    (pss_cons (ps_if (PW.pt (pw_or (pt_not (pt_val (pe_callB (call_isi_k K rfl) (by rfl) t.z_isinstance (by decide +kernel) (pa_cons (pe_ix (ix_tup_k K rfl) (pv 2) pe_int (fun _ _ => rfl)) (pa_cons (pe_bltn (v := .ty "list") (by rfl) t.z_list (by decide +kernel) rfl) pa_nil))))) (pw_or1 (pt_cmpR op_ge_str (pv 1) (pe_ix (ix_tup_k K rfl) (pv 2) pe_int (fun _ _ => rfl)) (by first | exact nomark _ | rfl))))) (pss_one (ps_ret (pe_tup (pa_cons pe_non (pa_cons pe_non pa_nil)))))
    pss_nil)
    (pss_one (ps_set (i := 1) sc_law_wrong.nd rfl (by first | exact Or.inl rfl | exact Or.inr rfl) (pe_ix (ix_tup_k K rfl) (pv 2) pe_int (fun _ _ => rfl)))))))
    (pss_cons (ps_setLc (i := 3) (own := [("name", 4), ("steps", 5)]) (g := gTup K 2 (gCons (gName 4) (gCons (gName 5) gNil))) (tt := tYes) rfl sc_law_wrong.nd rfl rfl (sw_true rfl rfl rfl (by decide +kernel)) (pi_list_k K rfl (pv 0)) (blkOk_by (own := [("name", 4), ("steps", 5)]) (N := N_law_wrong) (sc := defScope s_law_wrong) (by decide +kernel)) (fun _ _ _ _ _ => (pg_tup rfl (pgs_cons (pg_name (i := 4) sc_law_wrong.nd rfl (by first | exact Or.inl rfl | exact Or.inr rfl)) (pgs_cons (pg_name (i := 5) sc_law_wrong.nd rfl (by first | exact Or.inl rfl | exact Or.inr rfl)) pgs_nil)))) (fun _ _ _ _ _ => pts_nil) (fun _ _ _ _ _ => (pv 4)))
    (pss_cons (ps_for PassesOwn.never rfl (pi_list_k K rfl (pv 0)) (pg_tup rfl (pgs_cons (pg_name (i := 4) sc_law_wrong.nd rfl (by first | exact Or.inl rfl | exact Or.inr rfl)) (pgs_cons (pg_name (i := 5) sc_law_wrong.nd rfl (by first | exact Or.inl rfl | exact Or.inr rfl)) pgs_nil)))
    (pss_one (ps_for PassesOwn.never rfl (pi_range1 (by rfl) t.z_range (pa_cons (pe_callB (call_len_seq_k K rfl) (by rfl) t.z_len (by decide +kernel) (pa_cons (pv 5) pa_nil)) pa_nil)) (pg_name (i := 6) sc_law_wrong.nd rfl (by first | exact Or.inl rfl | exact Or.inr rfl))
    (pss_one (ps_if (pt_not (pt_val (pe_call (ok_law_is_step t) (hr.mono (by decide)) rfl t.g_law_is_step t.F_law_is_step.kp (b_law_is_step t) .nil pass0 (pa_cons (pe_ix (ix_list_k K rfl) (pv 5) (pv 6) (fun _ _ => rfl)) (pa_cons (pv 3) (pa_cons (pe_op op_sub (pe_op op_sub (pe_callB (call_len_seq_k K rfl) (by rfl) t.z_len (by decide +kernel) (pa_cons (pv 5) pa_nil)) pe_int) (pv 6)) pa_nil)))))) (pss_one (ps_ret (pe_tup (pa_cons (pv 4) (pa_cons (pv 6) pa_nil)))))
    pss_nil)))))
    (pss_one (ps_ret pe_non)))))))), ?_⟩
  refine ⟨_, rfl, _, _, _, _, _, rfl, .ty _, hd0.ty, kit_list _, _, rfl, iteF ?_⟩
  refine ⟨_, rfl, a, rfl, ⟨_, SqL.of ha⟩, ?_⟩
  refine for_it (walk_list (K := K) (a := a) (xs := vs)) (fun i σ H' => Same H H' ∧ ∃ (hd : L) (v2 v3 v4 v5 v6 : Option V), σ = [some (.ref a), some (.str (S hd)), v2, v3, v4, v5, v6] ∧ form p = formFrom hd (p.drop i))
    ⟨Same.refl _, [], _, _, _, _, _, rfl, (form_eq p).symm⟩ (fun i σ H' _ ⟨p1, _⟩ => SqL.of (p1 _ _ ha)) (fun i x σ H1 H2 hi ⟨s1, hdn, v2, v3, v4, v5, v6, hσ, hf⟩ y => ?_) (fun σ H1 ⟨s1, hdn, v2, v3, v4, v5, v6, hσ, hf⟩ => ?_)
  · subst hσ
    obtain ⟨rfl, hxi⟩ := y
    obtain ⟨⟨n, ss⟩, hpi, hdx⟩ := dtA_map (f := FG.hd) hx hxi
    have hdx := hdx.mono s1
    have hdx0 := hdx
    obtain ⟨b, us, rfl, hb, hu⟩ := dt_tup hdx
    obtain ⟨u1, u2, rfl, hu1, hu2⟩ := dtA2 hu
    cases dt_str hu1
    have hmem := List.mem_of_getElem? hpi
    have edr : p.drop i = (n, ss) :: p.drop (i + 1) := by
      have hil := (List.getElem?_eq_some_iff.mp hpi).1
      rw [List.drop_eq_getElem_cons hil]
      congr 1
      exact Option.some.inj ((List.getElem?_eq_getElem hil).symm.trans hpi)
    rw [edr, formFrom] at hf
    refine ⟨_, rfl, _, _, _, _, _, rfl, .ty _, hdx0.ty, kit_tuple _, _, rfl, iteF ?_⟩
    refine ⟨_, rfl, b, _, rfl, .inr (SqT.of hb), rfl, _, rfl, iteF ?_⟩
    refine ⟨_, rfl, b, _, _, _, rfl, rfl, SqT.of hb, at0, n, rfl, (hp.2 _ hmem).1, fun H3 s3 => ⟨_, rfl, iteBN (fun c => ?_) (fun c => ?_)⟩⟩
    · refine ⟨(by show 2 ≤ sizeLine; decide), fun u hu => ?_⟩
      exact no ((s1.trans s3).trans (same_new hu)) (nf (by
        have c : isName n = false := c
        rw [hf]; show (isName n && _ && _) = false; rw [c]; rfl))
    · have hu2 := hu2.mono s3
      have hb3 := s3 _ _ hb
      refine ⟨_, rfl, b, _, _, _, rfl, rfl, SqT.of hb3, at1, _, _, _, _, _, rfl, .ty _, hu2.ty, kit_list _, _, rfl, iteF ?_⟩
      refine ⟨_, rfl, _, rfl, b, _, _, _, rfl, rfl, SqT.of hb3, at0, _, _, rfl, rfl, _, rfl, ?_⟩
      rw [S_cps, S_cps]
      refine iteDN (fun c2 => ?_) (fun c2 => ?_)
      · refine ⟨(by show 2 ≤ sizeLine; decide), fun u hu => ?_⟩
        exact no ((s1.trans s3).trans (same_new hu)) (nf (by
          rw [hf]; show (isName n && ltL hdn n && _) = false
          unfold ltL
          rw [decide_eq_false c2, Bool.and_false]; rfl))
      · refine ⟨_, rfl, b, _, _, _, rfl, rfl, SqT.of hb3, at0, s1.trans s3, n, _, _, _, _, _, rfl, ?_⟩
        rw [hf]
        show (isName n && ltL hdn n && _) = _
        unfold ltL
        rw [decide_eq_true c2, show isName n = true from c]; rfl
  subst hσ
  rw [hlen, List.drop_length] at hf
  have hform : form p = true := hf
  refine ⟨_, rfl, a, rfl, ⟨_, SqL.of (s1 _ _ ha)⟩, fun D hD => ?_⟩
  refine lc_it (walk_list (K := K) (a := a) (xs := vs)) (fun i H' => Same H (hid D H') ∧ H' D = some (.lst ((p.take i).map fun h => V.str (S h.1))))
      ⟨by rw [hid_upd]; exact same_hid (Same.free s1 hD) s1, upd_same⟩ (fun i H' _ ⟨p1', _⟩ => SqL.of (hid_le _ _ (p1' _ _ ha))) (fun i x H2 H3 hi ⟨s2, e2⟩ y => ?_) (fun H2 ⟨s2, e2⟩ => ?_)
  · obtain ⟨rfl, hxi⟩ := y
    obtain ⟨⟨n, ss⟩, hpi, hdx⟩ := dtA_map (f := FG.hd) hx hxi
    obtain ⟨b, us, rfl, hb, hu⟩ := dt_tup hdx
    obtain ⟨u1, u2, rfl, hu1, hu2⟩ := dtA2 hu
    cases dt_str hu1
    refine ⟨b, _, rfl, SqT.of (hid_le _ _ (s2 _ _ hb)), rfl, _, _, rfl, _, _, rfl, rfl, rfl, _, rfl, ?_⟩
    refine ⟨_, e2, ?_, by rw [hid_upd]; exact s2, ?_⟩
    · rw [List.length_map, List.length_take]
      exact sz5 (Nat.le_trans (Nat.min_le_right _ _) hp.1)
    · rw [upd_same, List.take_add_one, hpi, List.map_append]
      rfl
  rw [hlen, List.take_length] at e2
  have eN : (p.map fun h => V.str (S h.1)) = (p.map (·.1)).map fun x => V.str (S x) := by rw [List.map_map]; rfl
  rw [eN] at e2
  refine ⟨_, rfl, a, rfl, ⟨_, SqL.of (hid_le _ _ (s2 _ _ ha))⟩, ?_⟩
  refine for_it (walk_list (K := K) (a := a) (xs := vs)) (fun i σ H' => Same H2 H' ∧ (∃ v1 v2 v3 v4 v5, σ = [some (.ref a), v5, v1, some (.ref D), v2, v3, v4]) ∧ isProg p = (p.drop i).all (fun h => stepsOk (p.map (·.1)) h.2))
    ⟨Same.refl _, ⟨_, _, _, _, _, rfl⟩, by unfold isProg; rw [hform, Bool.true_and]; rfl⟩ (fun i σ H' _ ⟨p1, _⟩ => SqL.of (p1 _ _ (hid_le _ _ (s2 _ _ ha)))) (fun i x σ H3 H4 hi ⟨s3, ⟨v1, v2, v3, v4, v5, hσ⟩, p3⟩ y => ?_) (fun σ H9 ⟨s3, _, p3⟩ => ?_)
  · subst hσ
    obtain ⟨rfl, hxi⟩ := y
    obtain ⟨⟨n, ss⟩, hpi, hdx⟩ := dtA_map (f := FG.hd) hx hxi
    obtain ⟨b, us, rfl, hb, hu⟩ := dt_tup hdx
    obtain ⟨u1, u2, rfl, hu1, hu2⟩ := dtA2 hu
    cases dt_str hu1
    obtain ⟨c1, ws, rfl, hc1, hw⟩ := dt_lst hu2
    have hmem := List.mem_of_getElem? hpi
    have s23 : Same H H4 := Same.trans s2 (hid_le.trans s3)
    rw [drop_all hpi] at p3
    have hwl : ws.length = ss.length := dtA_len hw
    have hssl := (hp.2 _ hmem).2.1
    refine ⟨b, _, rfl, SqT.of (s23 _ _ hb), rfl, _, _, rfl, _, _, rfl, rfl, ?_⟩
    refine ⟨_, rfl, c1, _, rfl, .inl (SqL.of (s23 _ _ hc1)), _, rfl, by omega, ?_, ?_⟩
    · have : ss.length ≤ 100000 := hssl
      omega
    rw [Int.toNat_natCast]
    refine for_it walk_range (fun j σ H' => Same H4 H' ∧ (∃ v1 v2 v5, σ = [some (.ref a), v5, v1, some (.ref D), some (.str (S n)), some (.ref c1), v2]) ∧ stepsOk (p.map (·.1)) ss = stepsOk (p.map (·.1)) (ss.drop j))
      ⟨Same.refl _, ⟨_, _, _, rfl⟩, rfl⟩ (fun j σ H' _ _ => trivial) (fun j x σ H5 H6 hj ⟨s5, ⟨v1, v2, v5, hσ⟩, p5⟩ y => ?_) (fun σ H5 ⟨s5, ⟨v1, v2, v5, hσ⟩, p5⟩ => ?_)
    · subst hσ
      obtain ⟨eH, rfl⟩ := yfn0 y
      cases eH
      have hjl : j < ws.length := hj
      have hx2 : ws[j]? = some ws[j] := List.getElem?_eq_getElem hjl
      generalize ws[j] = x2 at hx2
      obtain ⟨g, hg, hdg⟩ := dtA_map (f := GS.d) hw hx2
      have s6 : Same H H5 := s23.trans s5
      have hgm := List.mem_of_getElem? hg
      have hgo := (hp.2 _ hmem).2.2 _ hgm
      refine ⟨_, rfl, _, rfl, c1, _, _, x2, rfl, rfl, SqL.of (s6 _ _ hc1), atI_nat hx2, ?_⟩
      refine ⟨_, rfl, _, rfl, c1, _, rfl, .inl (SqL.of (s6 _ _ hc1)), _, _, rfl, rfl, _, rfl, _, _, rfl, rfl, ?_⟩
      refine ⟨x2, g, D, p.map (·.1), _, rfl, hdg.mono s6, hgo.1, hsh _ hmem _ hgm, s5 _ _ (s3 _ _ e2), hgo.2, fun H7 s7 => ?_⟩
      rw [stepsOk_drop hg] at p5
      rw [hwl, show ((ss.length : Int) - 1 - (j : Int)) = (ss.length : Int) - (j : Int) - 1 by omega]
      refine ⟨_, rfl, iteBN (fun c => ?_) (fun c => ?_)⟩
      · refine ⟨_, rfl, _, rfl, (by show 2 ≤ sizeLine; decide), fun u hu => ?_⟩
        refine no ((s6.trans s7).trans (same_new hu)) ?_
        rw [p3, p5, c]; rfl
      · rw [c, Bool.true_and] at p5
        exact ⟨s5.trans s7, ⟨_, _, _, rfl⟩, p5⟩
    · subst hσ
      rw [hwl, List.drop_length] at p5
      refine ⟨s3.trans s5, ⟨_, _, _, _, _, rfl⟩, ?_⟩
      rw [p3, p5]
      rfl
  · rw [hlen, List.drop_length, List.all_nil] at p3
    refine q _ _ (Same.trans s2 (hid_le.trans s3)) ?_
    rw [p3]
    rfl
end K55
namespace K55
open PySem PySem.Spec PyProof.Rows L2 PreX FG
variable {P : Program} {w : World} {K : PySem.W.Frag} {mg : Str → Option Value} {base : Heap}

def spLawRead (K : PySem.W.Frag) : Sp := fun vs H Q _ => (∃ l : L, vs = [.str (S l)] ∧ l.length ≤ 99999 ∧ runs 3999 l ∧ (readProg l = none → ∀ H', Same H H' → Q .non H') ∧
    (∀ p, readProg l = some p → ∀ v H', Same H H' → Dt H' v (pd p) → Q v H')) ∨
  ∃ (v : V) (ty : Value), vs = [v] ∧ TyX K H v ty ∧ PySem.W.kitOne K ty (.type "str") = some false ∧ Q .non H
theorem ok_law_read (t : T w K mg) : FnOk P w K mg base CX0 11 t.a_law_read t.d_law_read ["text"] (spLawRead K) := by
  refine t.F_law_read.ok sc_law_read (fun vs H Q E h => ?_) (fun cdv A outer s H vs Q E hr h => ?_)
  · rcases h with ⟨l, rfl, _⟩ | ⟨v, ty, rfl, _⟩ <;> rfl
  refine ⟨_, PSs.nox ((pss_cons (ps_if (pt_not (pt_val (pe_callB (call_isi_k K rfl) (by rfl) t.z_isinstance (by decide +kernel) (pa_cons (pv 0) (pa_cons (pe_bltn (v := .ty "str") (by rfl) t.z_str (by decide +kernel) rfl) pa_nil))))) (pss_one (ps_ret pe_non))
    pss_nil)
    (pss_cons (ps_set (i := 1) sc_law_read.nd rfl (by first | exact Or.inl rfl | exact Or.inr rfl) (pe_lst pa_nil))
    (pss_cons (ps_set (i := 2) sc_law_read.nd rfl (by first | exact Or.inl rfl | exact Or.inr rfl) pe_int)
    (pss_cons (ps_while PassesOwn.never (PW.pt (pw_and (pt_cmpR op_ne (pv 0) pe_str (by first | exact nomark _ | rfl)) (pw_and1 (pt_cmpR op_ge (pv 2) pe_int (by first | exact nomark _ | rfl)))))
    (pss_cons (ps_set (i := 3) sc_law_read.nd rfl (by first | exact Or.inl rfl | exact Or.inr rfl) (pe_call (ok_law_helper_read t) (hr.mono (by decide)) rfl t.g_law_helper_read t.F_law_helper_read.kp (b_law_helper_read t) .nil pass0 (pa_cons (pv 0) (pa_cons (pv 2) pa_nil))))
    (pss_cons (ps_if (PW.pt (pw_or (pt_cmpR op_isN (pv 3) pe_non (by first | exact nomark _ | rfl)) (pw_or1 (PW.pt (pw_and (pt_cmpR op_lt (pe_ix (ix_tup_k K rfl) (pv 3) pe_int (fun _ _ => rfl)) (pe_callB call_len_str (by rfl) t.z_len (by decide +kernel) (pa_cons (pv 0) pa_nil)) (by first | exact nomark _ | rfl)) (pw_and1 (pt_cmpR op_ne (pe_slice sl_str (pv 0) (po_some (pe_ix (ix_tup_k K rfl) (pv 3) pe_int (fun _ _ => rfl))) (po_some (pe_op op_add (pe_ix (ix_tup_k K rfl) (pv 3) pe_int (fun _ _ => rfl)) pe_int))) pe_str (by first | exact nomark _ | rfl)))))))) (pss_one (ps_ret pe_non))
    pss_nil)
    (pss_cons (ps_expr (pe_bm PySem.F.plainAttrs_list PySem.F.slot_list_append PySem.F.type_list_append mt_append (pv 1) (pa_cons (pe_ix (ix_tup_k K rfl) (pv 3) pe_int (fun _ _ => rfl)) pa_nil)))
    (pss_one (ps_set (i := 2) sc_law_read.nd rfl (by first | exact Or.inl rfl | exact Or.inr rfl) (pe_ifExp (pt_cmpR op_lt (pe_ix (ix_tup_k K rfl) (pv 3) pe_int (fun _ _ => rfl)) (pe_callB call_len_str (by rfl) t.z_len (by decide +kernel) (pa_cons (pv 0) pa_nil)) (by first | exact nomark _ | rfl)) (pe_op op_add (pe_ix (ix_tup_k K rfl) (pv 3) pe_int (fun _ _ => rfl)) pe_int) (pe_un un_neg pe_int))))))))
    (pss_one (ps_ret (pe_ifExp (pt_cmpR op_isN (pe_call (ok_law_wrong t) (hr.mono (by decide)) rfl t.g_law_wrong t.F_law_wrong.kp (b_law_wrong t) .nil pass0 (pa_cons (pv 1) pa_nil)) pe_non (by first | exact nomark _ | rfl)) (pv 1) pe_non)))))))), ?_⟩
  rcases h with ⟨l, rfl, hl, hrn, qn, qs⟩ | ⟨v, ty, rfl, hty, hk, q⟩
  case inr => exact ⟨_, rfl, _, _, _, _, _, rfl, .ty _, hty, hk, _, rfl, q⟩
  have hl6 : l.length ≤ 1000000 := Nat.le_trans hl (by decide)
  have hz : (S l).length ≤ sizeLine := by rw [S_len]; exact Nat.le_trans hl (by decide)
  rw [← lawRead_eq] at qn qs
  refine ⟨_, rfl, _, _, _, _, _, rfl, .ty _, (Dt.str _).ty, kit_str _, _, rfl, iteF ?_⟩
  refine ⟨(by show 0 ≤ sizeLine; decide), fun fp hfp => ?_⟩
  have s0 := same_new (o := .lst []) hfp
  obtain ⟨F0, hF0⟩ : ∃ F0, F0 = l.length + 1 := ⟨_, rfl⟩
  refine ⟨fun m σ H' => ∃ (ps : List Helper) (us : List V) (atv : Int) (v3 : Option V), σ = [some (.str (S l)), some (.ref fp), some (.int atv), v3] ∧ Same H (hid fp H') ∧ H' fp = some (.lst us) ∧ DtA (hid fp H') us (ps.map FG.hd) ∧
      (((l = [] ∨ atv < 0) ∧ lawRaw l = some ps) ∨ ∃ en F : Nat, atv = (en : Int) ∧ m = F ∧ en ≤ l.length ∧ l.length - en + 1 ≤ F ∧ l ≠ [] ∧ ps.length ≤ en ∧ rawR F0 l = (rawR F (l.drop en)).map fun x => ps ++ x),
    ⟨F0, [], [], 0, none, rfl, by rw [hid_upd]; exact same_hid hfp (Same.refl _), upd_same, .nil, ?_⟩, ?_⟩
  · by_cases h0 : l = []
    · exact .inl ⟨.inl h0, by unfold lawRaw; rw [if_pos h0]⟩
    · refine .inr ⟨0, F0, rfl, rfl, Nat.zero_le _, by omega, h0, Nat.zero_le _, ?_⟩
      rw [List.drop_zero]
      cases rawR F0 l <;> rfl
  rintro m σ H1 ⟨ps, us, atv, v3, rfl, s1, e1, d1, hcase⟩
  have s01 : Same H H1 := s1.trans hid_le
  -- behind the loop
  have fin : lawRaw l = some ps → tRet (tIf (tTest (tOp (fun x y H Q => y = V.non ∧ Q (V.bl (decide (x = V.non))) H) (tCall spLawWrong [] E0 (tCons (tVar 1) tNil)) (tC V.non))) (tVar 1) (tC V.non)) { nx := fun x H' => Q V.non H', rt := Q } [some (.str (S l)), some (.ref fp), some (.int atv), v3] H1 := fun hraw => by
    obtain ⟨hok, hsh⟩ := lawRaw_ok hraw hl
    have dt : Dt H1 (.ref fp) (pd ps) := .lst e1 (d1.mono hid_le)
    refine ⟨_, rfl, .ref fp, ps, rfl, dt, hok, hsh, fun u H2 s2 hu => ⟨rfl, _, rfl, ?_⟩⟩
    rw [hu]
    refine iteB (fun hip => ?_) (fun hip => ?_)
    · exact ⟨_, rfl, qs ps (by unfold lawRead; rw [hraw]; exact if_pos hip) _ _ (s01.trans s2) (dt.mono s2)⟩
    · exact qn (by unfold lawRead; rw [hraw]; exact if_neg (by rw [hip]; exact Bool.false_ne_true)) _ (s01.trans s2)
  refine ⟨_, rfl, rfl, _, rfl, iteDN (fun hne => ?_) (fun he => ?_)⟩
  · have hne : l ≠ [] := fun z => hne (by rw [z, ofS]; rfl)
    refine ⟨_, rfl, _, _, rfl, rfl, _, rfl, iteD (fun hat => ?_) (fun hat => ?_)⟩
    · rcases hcase with ⟨h1 | h1, _⟩ | ⟨en, F, rfl, hmF, hen, hF, _, hpe, hraw⟩
      · exact absurd h1 hne
      · omega
      obtain ⟨F, rfl⟩ : ∃ F', F = F' + 1 := ⟨F - 1, by omega⟩
      rw [rawR] at hraw
      have hlw : lawRaw l = rawR F0 l := by unfold lawRaw; rw [if_neg hne, hF0]
      refine ⟨_, fun _ _ h => h, ?_⟩
      refine ⟨_, rfl, _, rfl, l, en, rfl, hen, Nat.le_trans hl (by decide), hrn, fun hno H2 s2 => ?_, fun g r hg ta sa us2 p H2 hsa s2 eta esa dsa ep => ?_⟩
      · refine ⟨_, rfl, rfl, _, rfl, qn ?_ _ (s01.trans s2)⟩
        unfold lawRead
        rw [hlw, hraw, hno]; rfl
      rw [hg] at hraw
      have hraw : rawR F0 l = (if r = [] then some [g] else if r.take 2 ≠ [59, 32] then none else (rawR F (r.drop 2)).map fun p => g :: p).map fun x => ps ++ x := hraw
      have e2 := s2 _ _ e1
      obtain ⟨hsd, _⟩ := helperR_sound hg
      obtain ⟨g1, g2, g3⟩ := left_at hen hsd
      have hgl : en + 1 ≤ l.length - r.length := by
        have := (shHelper_bounds g).1
        cases hh : shHelper g with
        | nil => exact absurd hh (shHelper_ne g)
        | cons => rw [g2, hh, List.length_cons]; omega
      generalize hen2 : l.length - r.length = en2 at *
      simp only [L2.tNext, L2.gName, Bool.false_eq_true, reduceIte]
      refine XS.seqR (fun σ Hx => σ = [some (.str (S l)), some (.ref fp), some (.int (en : Int)), some (.ref p)] ∧ Hx = H2 ∧ (en2 < l.length → r.take 2 = [59, 32])) (fun σ Hx hh => ?_) (fun rest => ?_)
      · obtain ⟨rfl, rfl, h59⟩ := hh
        have nsa : sa ≠ fp := fun z => by rw [z, e1] at hsa; cases hsa
        have nta : ta ≠ fp := fun z => by rw [z, e2] at eta; cases eta
        have npf : p ≠ fp := fun z => by rw [z, e2] at ep; cases ep
        have hfl : us.length < sizeLine := by
          have := d1.length
          rw [List.length_map] at this
          exact Nat.lt_of_le_of_lt (m := 99999) (by omega) (by decide)
        refine ⟨_, rfl, .inl ⟨rfl, _, SqL.of e2⟩, _, rfl, p, _, _, .ref ta, rfl, rfl, SqT.of ep, at0, fp, us, .ref ta, rfl, rfl, e2, hfl, ?_⟩
        have ep3 : (upd Hx fp (.lst (us ++ [.ref ta]))) p = some (.tup [.ref ta, .int (en2 : Int)]) := by rw [upd_ne npf]; exact ep
        have d3 : DtA (hid fp (upd Hx fp (.lst (us ++ [.ref ta])))) (us ++ [.ref ta]) ((ps ++ [g]).map FG.hd) := by
          rw [hid_upd, List.map_append]
          refine (d1.mono (hid_same s2)).append (.one ?_)
          exact .tup (by rw [hid_ne nta]; exact eta) (.cons (.str _) (.cons (.lst (by rw [hid_ne nsa]; exact esa) (gsA_hid e2 _ (dsa.mono hid_le))) .nil))
        have s3 : Same H (hid fp (upd Hx fp (.lst (us ++ [.ref ta])))) := by rw [hid_upd]; exact s1.trans (hid_same s2)
        refine ⟨_, rfl, p, _, _, _, rfl, rfl, SqT.of ep3, at1, _, rfl, _, rfl, hz, _, _, rfl, rfl, _, rfl, iteD (fun c => ?_) (fun c => ?_)⟩
        · rw [S_len] at c
          have c : en2 < l.length := by omega
          have hrn0 : r ≠ [] := fun z => by rw [z] at hen2; simp at hen2; omega
          rw [if_neg hrn0, if_neg fun z => z (h59 c)] at hraw
          have h2l := congrArg List.length (h59 c)
          rw [List.length_take] at h2l
          have h2l : min 2 r.length = 2 := h2l
          refine ⟨_, rfl, p, _, _, _, rfl, rfl, SqT.of ep3, at1, _, _, rfl, rfl, ?_⟩
          refine ⟨F, by omega, ps ++ [g], us ++ [.ref ta], ((en2 + 2 : Nat) : Int), _, rfl, s3, upd_same, d3, .inr ⟨en2 + 2, F, rfl, rfl, by omega, by omega, hne, by rw [List.length_append, List.length_singleton]; omega, ?_⟩⟩
          rw [hraw, show l.drop (en2 + 2) = r.drop 2 by rw [← g1, List.drop_drop]]
          cases rawR F (r.drop 2) <;> simp
        · rw [S_len] at c
          have hr0 : r = [] := List.eq_nil_of_length_eq_zero (by omega)
          rw [if_pos hr0] at hraw
          refine ⟨1, rfl, ?_⟩
          refine ⟨F, by omega, ps ++ [g], us ++ [.ref ta], -1, _, rfl, s3, upd_same, d3, .inl ⟨.inr (by decide), ?_⟩⟩
          rw [hlw, hraw]; rfl
      · refine ⟨_, rfl, rfl, _, rfl, iteD (fun z => by cases z) (fun _ => ?_)⟩
        refine ⟨_, rfl, p, _, _, _, rfl, rfl, SqT.of ep, at1, _, rfl, _, rfl, hz, _, _, rfl, rfl, _, rfl, iteD (fun c => ?_) (fun c => ?_)⟩
        · refine ⟨_, rfl, _, rfl, p, _, _, _, rfl, rfl, SqT.of ep, at1, _, rfl, _, rfl, p, _, _, _, rfl, rfl, SqT.of ep, at1, _, _, rfl, rfl, _, rfl, _, rfl, hz, rfl, _, rfl, ?_⟩
          rw [cutS_two, g1]
          refine iteDN (fun c2 => ?_) (fun c2 => ?_)
          · refine qn ?_ _ (s01.trans s2)
            rw [S_len] at c
            have hrn0 : r ≠ [] := fun z => by rw [z] at hen2; simp at hen2; omega
            unfold lawRead
            rw [hlw, hraw, if_neg hrn0, if_pos fun z => c2 (by rw [z]; rfl)]; rfl
          · exact rest _ _ ⟨rfl, rfl, fun _ => S_inj (V.str.inj c2)⟩
        · rw [S_len] at c
          exact rest _ _ ⟨rfl, rfl, fun z => by omega⟩
    · rcases hcase with ⟨_, hraw⟩ | ⟨en, F, rfl, _⟩
      · exact fin hraw
      · omega
  · have he : l = [] := S_inj (by rw [V.str.inj he, ofS]; rfl)
    rcases hcase with ⟨_, hraw⟩ | ⟨en, F, _, _, _, _, hne, _⟩
    · exact fin hraw
    · exact absurd he hne
end K55
namespace K55
open PySem PySem.Spec PyProof.Rows L2 PreX FG
variable {P : Program} {w : World} {K : PySem.W.Frag} {mg : Str → Option Value} {base : Heap}

theorem Rows.dtv {H0 H : Hp} {a : Addr} {rs : List RowT} {p : List Helper} (e : H a = some (.lst (rs.map fun r => V.ref r.1))) (r : Rows H0 (hid a H) rs p) : Dt H (.ref a) (pd p) := .lst e (r.mono hid_le).dt
def spRefusal (C : Addr) : Sp := fun vs H Q _ => ∃ a : Addr, vs = [.ref a] ∧ H a = some (XT.ExE (.ref C) none a) ∧ ∀ H', Same H H' → Q (.bl true) H'
theorem ok_law_plain_refusal (t : T w K mg) : FnOk P w K mg base CX0 1 t.a_law_plain_refusal t.d_law_plain_refusal ["caught"] (spRefusal t.C_NoText) := by
  refine t.F_law_plain_refusal.ok sc_law_plain_refusal (fun vs H Q E h => ?_) (fun cdv A outer s H vs Q E hr h => ?_)
  · obtain ⟨a, rfl, _⟩ := h
    rfl
  obtain ⟨a, rfl, ha, q⟩ := h
  refine ⟨_, PSs.nox ((pss_cons (ps_if (pt_val (pe_callB (XT.call_keptT K rfl) (by rfl) t.z_isinstance (by decide +kernel) (pa_cons (pv 0) (pa_cons (pe_tup (pa_cons (pe_glob (v := .ref t.C_NoHand) rfl t.g_NoHand rfl) (pa_cons (pe_glob (v := .ref t.C_NoHelper) rfl t.g_NoHelper rfl) (pa_cons (pe_glob (v := .ref t.C_NoMark) rfl t.g_NoMark rfl) (pa_cons (pe_glob (v := .ref t.C_NoProgram) rfl t.g_NoProgram rfl) (pa_cons (pe_glob (v := .ref t.C_NotOver) rfl t.g_NotOver rfl) (pa_cons (pe_glob (v := .ref t.C_TooLong) rfl t.g_TooLong rfl) pa_nil))))))) pa_nil)))) (pss_one (ps_ret pe_bl))
    pss_nil)
    (pss_one (ps_ret (pe_and (pe_callB (XT.call_kept K rfl) (by rfl) t.z_isinstance (by decide +kernel) (pa_cons (pv 0) (pa_cons (pe_glob (v := .ref t.C_NoText) rfl t.g_NoText rfl) pa_nil))) (pe_one (pe_callB (XT.call_kept K rfl) (by rfl) t.z_isinstance (by decide +kernel) (pa_cons (pv 0) (pa_cons (pe_bltn (v := .ty "ValueError") (by rfl) t.z_ValueError (by decide +kernel) rfl) pa_nil))))))))), ?_⟩
  refine ⟨_, rfl, (by show 6 ≤ sizeLine; decide), fun tp htp => ?_⟩
  have s1 := same_new (o := .tup [.ref t.C_NoHand, .ref t.C_NoHelper, .ref t.C_NoMark, .ref t.C_NoProgram, .ref t.C_NotOver, .ref t.C_TooLong]) htp
  have ha1 := s1 _ _ ha
  refine ⟨a, _, tp, _, _, _, rfl, ha1, t.xc_NoText, upd_same, .cons (.own _) (.cons (.own _) (.cons (.own _) (.cons (.own _) (.cons (.own _) (.cons (.own _) .nil))))), t.ki_NoText, _, rfl, iteF ?_⟩
  refine ⟨_, rfl, a, _, _, _, _, rfl, ha1, t.xc_NoText, .own _, t.kn_NoText, _, rfl, iteT ?_⟩
  exact ⟨_, rfl, a, _, _, _, _, rfl, ha1, t.xc_NoText, .ty _, t.kv_NoText, q _ s1⟩
def spAsked (K : PySem.W.Frag) : Sp := fun vs H Q _ => ((∃ l : L, vs = [.str (S l)] ∧ l.length ≤ 99999 ∧ runs 3999 l) ∨ ∃ (v : V) (ty : Value), vs = [v] ∧ (∀ H', Same H H' → TyX K H' v ty) ∧ PySem.W.kitOne K ty (.type "str") = some false) ∧ ∀ H', Same H H' → Q (.bl true) H'
theorem ok_law_asked (t : T w K mg) : FnOk P w K mg base CX0 12 t.a_law_asked t.d_law_asked ["text"] (spAsked K) := by
  refine t.F_law_asked.ok sc_law_asked (fun vs H Q E h => ?_) (fun cdv A outer s H vs Q E hr h => ?_)
  · rcases h with ⟨⟨l, rfl, _⟩ | ⟨v, ty, rfl, _⟩, _⟩ <;> rfl
  obtain ⟨h, q⟩ := h
  refine ⟨_, PSs.nox ((pss_cons (ps_set (i := 1) sc_law_asked.nd rfl (by first | exact Or.inl rfl | exact Or.inr rfl) pe_non)
    (pss_cons (ps_set (i := 2) sc_law_asked.nd rfl (by first | exact Or.inl rfl | exact Or.inr rfl) pe_non)
    (pss_cons (XT.ps_try_keep (i := 3) rfl rfl rfl sc_law_asked.nd rfl rfl ⟨rfl, by decide, .inl t.g_WorkError⟩ takes0 (fun W pn xe tk _ => (pss_one (ps_set (i := 1) sc_law_asked.nd rfl (by first | exact Or.inl rfl | exact Or.inr rfl) (pe_callS (ok_read_program t) (hr.mono (by decide)) rfl t.g_read_program t.F_read_program.kp (b_read_program t) (fun σ => passAt tk σ) (pa_cons (pv 0) pa_nil))))) (fun a oe cls d pn hz hf => (pss_one (ps_set (i := 2) sc_law_asked.nd rfl (by first | exact Or.inl rfl | exact Or.inr rfl) (pv 3)))))
    (pss_cons (ps_set (i := 4) sc_law_asked.nd rfl (by first | exact Or.inl rfl | exact Or.inr rfl) (pe_call (ok_law_read t) (hr.mono (by decide)) rfl t.g_law_read t.F_law_read.kp (b_law_read t) .nil pass0 (pa_cons (pv 0) pa_nil)))
    (pss_cons (ps_if (pt_cmpR op_isN (pv 4) pe_non (by first | exact nomark _ | rfl)) (pss_one (ps_ret (pe_and (pe_cmpR op_notN (pv 2) pe_non (by first | exact nomark _ | rfl)) (pe_one (pe_call (ok_law_plain_refusal t) (hr.mono (by decide)) rfl t.g_law_plain_refusal t.F_law_plain_refusal.kp (b_law_plain_refusal t) .nil pass0 (pa_cons (pv 2) pa_nil))))))
    pss_nil)
    (pss_one (ps_ret (pe_and (pe_cmpR op_isN (pv 2) pe_non (by first | exact nomark _ | rfl)) (pe_and (pe_callB (call_isi_k K rfl) (by rfl) t.z_isinstance (by decide +kernel) (pa_cons (pv 1) (pa_cons (pe_bltn (v := .ty "list") (by rfl) t.z_list (by decide +kernel) rfl) pa_nil))) (pe_one (pe_cmpR (op_eqD_k K rfl hr.units) (pv 1) (pv 4) (by first | exact nomark _ | rfl))))))))))))), ?_⟩
  rcases h with ⟨l, rfl, hl, hrn⟩ | ⟨v, ty, rfl, hty, hk⟩
  · refine ⟨_, rfl, .inl ⟨l, rfl, by omega, hrn, fun p hp => raw_ok hp (by omega), fun p hp a rs H1 ha s1 e1 r1 => ?_, fun hno H1 s1 => ?_⟩⟩
    · have d1 := Rows.dtv e1 r1
      obtain ⟨_, hip⟩ := sh_readProg hp
      have sh := (prog_shp hip).shaped (by decide)
      refine ⟨_, rfl, .inl ⟨l, rfl, hl, hrn, fun hno => ?_, fun p' hp' v H2 s2 d2 => ?_⟩⟩
      · rw [hp] at hno; cases hno
      rw [hp] at hp'
      cases hp'
      have hv : v ≠ .non := fun z => by rw [z] at d2; cases d2
      refine ⟨_, rfl, rfl, _, rfl, iteD (fun z => absurd z hv) (fun _ => ?_)⟩
      refine ⟨_, rfl, rfl, _, rfl, iteT ?_⟩
      have d3 := d1.mono s2
      refine ⟨_, rfl, _, _, _, _, _, rfl, .ty _, d3.ty, kit_list _, _, rfl, iteT ?_⟩
      refine ⟨_, rfl, _, rfl, _, _, d3.dp, d2.dp, sh, sh, ?_⟩
      rw [(prog_shp hip).refl]
      exact q _ (s1.trans s2)
    · refine ⟨true, t.e_NoText_WorkError, fun _ a ha => ?_, fun z => nomatch z⟩
      have s2 := same_new (o := XT.ExE (.ref t.C_NoText) none a) ha
      refine ⟨_, rfl, ?_⟩
      refine ⟨_, rfl, .inl ⟨l, rfl, hl, hrn, fun _ H2 s3 => ?_, fun p' hp' => ?_⟩⟩
      case refine_2 => rw [hno] at hp'; cases hp'
      refine ⟨_, rfl, rfl, _, rfl, iteT ?_⟩
      refine ⟨_, rfl, rfl, _, rfl, iteDN (fun _ => ?_) (fun z => by cases z)⟩
      exact ⟨_, rfl, a, rfl, s3 _ _ upd_same, fun H3 s4 => q _ (s1.trans (s2.trans (s3.trans s4)))⟩
  · refine ⟨_, rfl, .inr ⟨v, ty, rfl, hty _ (Same.refl _), hk, ?_⟩⟩
    refine ⟨true, t.e_NoText_WorkError, fun _ a ha => ?_, fun z => nomatch z⟩
    have s2 := same_new (o := XT.ExE (.ref t.C_NoText) none a) ha
    refine ⟨_, rfl, ?_⟩
    refine ⟨_, rfl, .inr ⟨v, ty, rfl, hty _ s2, hk, ?_⟩⟩
    refine ⟨_, rfl, rfl, _, rfl, iteT ?_⟩
    refine ⟨_, rfl, rfl, _, rfl, iteDN (fun _ => ?_) (fun z => by cases z)⟩
    exact ⟨_, rfl, a, rfl, upd_same, fun H3 s4 => q _ (s2.trans s4)⟩
end K55
namespace K55
open PySem PySem.Spec PyProof.Rows L2 PreX FG
variable {P : Program} {w : World} {K : PySem.W.Frag} {mg : Str → Option Value} {base : Heap}

theorem app_len (x y : Str) : (x ++ y).length = x.length + y.length := by
  cases x; cases y
  show (Array.size (_ ++ _)) = _
  rw [Array.size_append]; rfl
theorem cut_len (x : Str) (k : Nat) : (cutS x none (some (k : Int))).length ≤ k := by
  rw [← S_of x, cutS_to, S_len, List.length_take]
  omega
theorem rep_len (l : List Nat) (k : Nat) : (⟨((List.replicate k l).flatten).toArray⟩ : Str).length = k * l.length := by
  show ((List.replicate k l).flatten).toArray.size = _
  simp
theorem line (n : Nat) (h : n ≤ 1000000) : n ≤ sizeLine := Nat.le_trans h (by decide)
theorem join_le {sep : Str} {ys : List Str} {m : Nat} (h : ∀ y ∈ ys, y.length ≤ m) : (Txt.join sep ys).length ≤ ys.length * m + ys.length * sep.length := by
  have e : ys = (ys.map fun x => x.cps.toList).map S := by
    rw [List.map_map]
    conv => lhs; rw [← List.map_id ys]
    exact List.map_congr_left fun x _ => (S_of x).symm
  have e2 : Txt.join sep ys = S (joinL sep.cps.toList (ys.map fun x => x.cps.toList)) := by
    conv => lhs; rw [← S_of sep, e]
    exact txtJoin_S _ _
  rw [e2, S_len]
  refine Nat.le_trans (joinL_len_le _ _) ?_
  simp only [List.length_map]
  rw [show sep.cps.toList.length = sep.length from Array.length_toList]
  refine Nat.add_le_add_right ?_ _
  have : ∀ ys : List Str, (∀ y ∈ ys, y.length ≤ m) → ((ys.map fun x => x.cps.toList).map List.length).sum ≤ ys.length * m := by
    intro ys
    induction ys with
    | nil => intro _; simp
    | cons a r ih =>
      intro h
      have h1 := h a List.mem_cons_self
      have h2 := ih fun y hy => h y (List.mem_cons_of_mem _ hy)
      have h3 : a.cps.toList.length = a.length := Array.length_toList
      simp only [List.map_cons, List.sum_cons, List.length_cons, Nat.succ_mul]
      omega
  exact this ys h
theorem sum_le {ys : List Str} {m : Nat} (h : ∀ y ∈ ys, y.length ≤ m) : (ys.map (·.length)).sum ≤ ys.length * m := by
  induction ys with
  | nil => simp
  | cons a r ih =>
    have h1 := h a List.mem_cons_self
    have h2 := ih fun y hy => h y (List.mem_cons_of_mem _ hy)
    simp only [List.map_cons, List.sum_cons, List.length_cons, Nat.succ_mul]
    omega
def spLong : Sp := fun vs H Q _ => ∃ (b : Addr) (n : Nat), vs = [.ref b] ∧ Bag b n H ∧ n ≤ 2 ^ 48 ∧ ∀ (x : Str) (H' : Hp), x.length ≤ 3700 → SameBut b H H' → Bag b (n + 3) H' → Q (.str x) H'
theorem ok_law_long (t : T w K mg) : FnOk P w K mg base CX0 2 t.a_law_long t.d_law_long ["bag"] spLong := by
  refine t.F_law_long.ok sc_law_long (fun vs H Q E h => ?_) (fun cdv A outer s H vs Q E hr h => ?_)
  · obtain ⟨b, n, rfl, _⟩ := h
    rfl
  obtain ⟨b, n, rfl, hb, hn, q⟩ := h
  refine ⟨_, PSs.nox ((pss_cons (ps_set (i := 1) sc_law_long.nd rfl (by first | exact Or.inl rfl | exact Or.inr rfl) pe_str)
    (pss_cons (ps_set (i := 2) sc_law_long.nd rfl (by first | exact Or.inl rfl | exact Or.inr rfl) (pe_op op_add pe_int (pe_call (ok_law_draw t) (hr.mono (by decide)) rfl t.g_law_draw t.F_law_draw.kp (b_law_draw t) .nil pass0 (pa_cons (pv 0) (pa_cons pe_int pa_nil)))))
    (pss_cons (ps_set (i := 3) sc_law_long.nd rfl (by first | exact Or.inl rfl | exact Or.inr rfl) (pe_call (ok_law_draw t) (hr.mono (by decide)) rfl t.g_law_draw t.F_law_draw.kp (b_law_draw t) .nil pass0 (pa_cons (pv 0) (pa_cons pe_int pa_nil))))
    (pss_cons (ps_if (pt_cmpR op_eq (pv 3) pe_int (by first | exact nomark _ | rfl)) (pss_cons (ps_set (i := 4) sc_law_long.nd rfl (by first | exact Or.inl rfl | exact Or.inr rfl) (pe_ix (ix_list_k K rfl) (pe_lst (pa_cons pe_str (pa_cons pe_str (pa_cons pe_str (pa_cons pe_str (pa_cons pe_str (pa_cons pe_str (pa_cons pe_str (pa_cons pe_str (pa_cons pe_str (pa_cons pe_str (pa_cons pe_str pa_nil)))))))))))) (pe_call (ok_law_draw t) (hr.mono (by decide)) rfl t.g_law_draw t.F_law_draw.kp (b_law_draw t) .nil pass0 (pa_cons (pv 0) (pa_cons pe_int pa_nil))) (fun _ _ => rfl)))
    (pss_one (ps_ret (pe_slice sl_str (pe_op XD.op_mulS (pv 4) (pv 2)) po_none (po_some pe_int)))))
    pss_nil)
    (pss_cons (ps_if (pt_cmpR op_eq (pv 3) pe_int (by first | exact nomark _ | rfl)) (pss_cons (ps_set (i := 5) sc_law_long.nd rfl (by first | exact Or.inl rfl | exact Or.inr rfl) (pe_op op_mod (pv 2) pe_int))
    (pss_one (ps_ret (pe_slice sl_str (pe_op op_add_str (pe_op op_add_str (pe_op op_add_str (pe_op op_add_str pe_str (pe_op XD.op_mulS pe_str (pv 5))) pe_str) (pe_op XD.op_mulS pe_str (pv 5))) pe_str) po_none (po_some pe_int)))))
    pss_nil)
    (pss_cons (ps_if (pt_cmpR op_eq (pv 3) pe_int (by first | exact nomark _ | rfl)) (pss_one (ps_ret (pe_op op_add_str (pe_op op_add_str pe_str (pe_op XD.op_mulS pe_str (pe_op op_mod (pv 2) pe_int))) (pe_op XD.op_mulS pe_str (pe_op op_mod (pv 2) pe_int)))))
    pss_nil)
    (pss_cons (ps_if (pt_cmpR op_eq (pv 3) pe_int (by first | exact nomark _ | rfl)) (pss_one (ps_ret (pe_op op_add_str pe_str (pe_join pe_str (pe_op op_cat (pe_lc (own := [("k", 7)]) (g := gName 7) (tt := tYes) rfl sc_law_long.nd (pi_range1 (by rfl) t.z_range (pa_cons (pe_op op_mod (pv 2) pe_int) pa_nil)) (blkOk_by (own := [("k", 7)]) (N := N_law_long) (sc := defScope s_law_long) (by decide +kernel)) (fun _ _ _ _ _ => (pg_name (i := 7) sc_law_long.nd rfl (by first | exact Or.inl rfl | exact Or.inr rfl))) (fun _ _ _ _ _ => pts_nil) (fun _ _ _ _ _ => (pe_ix (ix_list_k K rfl) (pe_lst (pa_cons pe_str (pa_cons pe_str (pa_cons pe_str pa_nil)))) (pe_op op_mod (pv 7) pe_int) (fun _ _ => rfl)))) (pe_lst (pa_cons pe_str pa_nil)))))))
    pss_nil)
    (pss_cons (ps_if (pt_cmpR op_eq (pv 3) pe_int (by first | exact nomark _ | rfl)) (pss_one (ps_ret (pe_join pe_str (pe_lc (own := [("k", 7)]) (g := gName 7) (tt := tYes) rfl sc_law_long.nd (pi_range1 (by rfl) t.z_range (pa_cons (pe_op op_mod (pv 2) pe_int) pa_nil)) (blkOk_by (own := [("k", 7)]) (N := N_law_long) (sc := defScope s_law_long) (by decide +kernel)) (fun _ _ _ _ _ => (pg_name (i := 7) sc_law_long.nd rfl (by first | exact Or.inl rfl | exact Or.inr rfl))) (fun _ _ _ _ _ => pts_nil) (fun _ _ _ _ _ => (pe_op op_add_str (pe_op op_add_str (pe_ix ix_str (pv 1) (pe_op op_fdivW (pv 7) pe_int) (fun _ _ => rfl)) (pe_ix ix_str (pv 1) (pe_op op_mod (pv 7) pe_int) (fun _ _ => rfl))) pe_str))))))
    pss_nil)
    (pss_cons (ps_set (i := 6) sc_law_long.nd rfl (by first | exact Or.inl rfl | exact Or.inr rfl) (pe_op op_mod (pv 2) pe_int))
    (pss_cons (ps_if (pt_cmpR op_lt (pv 6) pe_int (by first | exact nomark _ | rfl)) (pss_one (ps_ret (pe_op op_add_str pe_str (pe_join pe_str (pe_op op_cat (pe_lc (own := [("k", 7)]) (g := gName 7) (tt := tYes) rfl sc_law_long.nd (pi_range1 (by rfl) t.z_range (pa_cons (pv 6) pa_nil)) (blkOk_by (own := [("k", 7)]) (N := N_law_long) (sc := defScope s_law_long) (by decide +kernel)) (fun _ _ _ _ _ => (pg_name (i := 7) sc_law_long.nd rfl (by first | exact Or.inl rfl | exact Or.inr rfl))) (fun _ _ _ _ _ => pts_nil) (fun _ _ _ _ _ => (XL.pe_jnd (PJ.cons pe_str (PJ.cons (pe_fmt (pe_op op_add pe_int (pe_op op_mod (pe_op op_mul (pv 7) (pv 7)) (pe_op op_sub (pv 6) (pv 7))))) PJ.nil))))) (pe_lst (pa_cons pe_str pa_nil)))))))
    pss_nil)
    (pss_one (ps_ret (pe_op op_add_str (pe_op op_add_str pe_str (pe_op XD.op_mulS pe_str (pv 6))) pe_str)))))))))))))), ?_⟩
  refine ⟨_, rfl, b, 3000, n, rfl, by decide, by decide, hb, by omega, fun r1 H1 r10 r11 s1 b1 => ?_⟩
  refine ⟨_, _, rfl, rfl, ?_⟩
  obtain ⟨many, hmany, hm1⟩ : ∃ k : Nat, 1 + r1 = (k : Int) ∧ k ≤ 3000 := ⟨(1 + r1).toNat, by omega, by omega⟩
  dsimp only
  rw [hmany]
  refine ⟨_, rfl, b, 6, n + 1, rfl, by decide, by decide, b1, by omega, fun pick H2 p0 p1 s2 b2 => ?_⟩
  have s02 := s1.trans s2
  have fin : ∀ (x : Str) (H' : Hp), x.length ≤ 3700 → SameBut b H2 H' → Bag b (n + 3) H' → Q (.str x) H' := fun x H' hx s' b' => q x H' hx (s02.trans s') b'
  have b3 : Bag b (n + 3) H2 := b2.up (by omega)
  refine ⟨_, rfl, rfl, _, rfl, iteD (fun c => ?_) (fun c => ?_)⟩
  · refine ⟨(by show 11 ≤ sizeLine; decide), fun p hp => ?_⟩
    have hpb := b2.ne hp
    refine ⟨_, rfl, b, 11, n + 2, rfl, by decide, by decide, b2.same (same_new hp), by omega, fun r H3 r30 r31 s3 b3 => ?_⟩
    obtain ⟨l, hat, hl⟩ : ∃ l : List Nat, atI [V.str "; ", V.str ", ", V.str "a: ", V.str "wait, ", V.str "[", V.str "]", V.str "cell[", V.str "arg ", V.str " ", V.str "a:; ", V.str "-"] r = some (V.str ⟨l.toArray⟩) ∧ l.length ≤ 6 := by
      have h : r = 0 ∨ r = 1 ∨ r = 2 ∨ r = 3 ∨ r = 4 ∨ r = 5 ∨ r = 6 ∨ r = 7 ∨ r = 8 ∨ r = 9 ∨ r = 10 := by omega
      rcases h with rfl | rfl | rfl | rfl | rfl | rfl | rfl | rfl | rfl | rfl | rfl
      · exact ⟨cs "; ", by decide +kernel, by decide⟩
      · exact ⟨cs ", ", by decide +kernel, by decide⟩
      · exact ⟨cs "a: ", by decide +kernel, by decide⟩
      · exact ⟨cs "wait, ", by decide +kernel, by decide⟩
      · exact ⟨cs "[", by decide +kernel, by decide⟩
      · exact ⟨cs "]", by decide +kernel, by decide⟩
      · exact ⟨cs "cell[", by decide +kernel, by decide⟩
      · exact ⟨cs "arg ", by decide +kernel, by decide⟩
      · exact ⟨cs " ", by decide +kernel, by decide⟩
      · exact ⟨cs "a:; ", by decide +kernel, by decide⟩
      · exact ⟨cs "-", by decide +kernel, by decide⟩
    refine ⟨p, _, _, _, rfl, rfl, SqL.of (s3.get hpb upd_same), hat, ?_⟩
    have hlm : l.length * many ≤ 6 * 3000 := Nat.mul_le_mul hl hm1
    refine ⟨_, rfl, _, rfl, l, many, rfl, rfl, by omega, by omega, by omega, _, rfl, _, rfl, ?_, ?_⟩
    · rw [rep_len, Nat.mul_comm]; exact line _ (by omega)
    · exact fin _ _ (Nat.le_trans (cut_len _ 3000) (by decide)) ((SameBut.of (same_new hp)).trans s3) b3
  refine ⟨_, rfl, rfl, _, rfl, iteD (fun c => ?_) (fun c => ?_)⟩
  · refine ⟨_, rfl, _, _, rfl, rfl, (by show (0 : Int) < 590; decide), ?_⟩
    obtain ⟨deep, hdeep, hd1⟩ : ∃ k : Nat, (many : Int) % 590 = (k : Int) ∧ k < 590 := ⟨((many : Int) % 590).toNat, by omega, by omega⟩
    dsimp only
    rw [hdeep]
    refine ⟨_, rfl, cs "cell[", deep, by decide +kernel, rfl, by decide, by omega, ?_, ?_⟩
    · show 5 * deep ≤ 1000000; omega
    have l1 : (⟨((List.replicate deep (cs "cell[")).flatten).toArray⟩ : Str).length = deep * 5 := rep_len _ _
    have l2 : (⟨((List.replicate deep (cs "]")).flatten).toArray⟩ : Str).length = deep * 1 := rep_len _ _
    have k1 : (Str.ofString "a: cell ").length = 8 := by decide +kernel
    have k2 : (Str.ofString "1").length = 1 := by decide +kernel
    have k3 : (Str.ofString " 2").length = 2 := by decide +kernel
    refine ⟨_, _, rfl, rfl, ?_, _, _, rfl, rfl, ?_, _, rfl, cs "]", deep, by decide +kernel, rfl, by decide, by omega, ?_, _, _, rfl, rfl, ?_, _, _, rfl, rfl, ?_, _, rfl, _, rfl, ?_, ?_⟩
    · exact line _ (by omega)
    · exact line _ (by rw [app_len]; omega)
    · show 1 * deep ≤ 1000000; omega
    · exact line _ (by rw [app_len, app_len]; omega)
    · exact line _ (by rw [app_len, app_len, app_len]; omega)
    · exact line _ (by rw [app_len, app_len, app_len, app_len]; omega)
    · exact fin _ _ (Nat.le_trans (cut_len _ 3000) (by decide)) (Same.refl _) b3
  refine ⟨_, rfl, rfl, _, rfl, iteD (fun c => ?_) (fun c => ?_)⟩
  · obtain ⟨k, hk, hk1⟩ : ∃ k : Nat, (many : Int) % 2 = (k : Int) ∧ k < 2 := ⟨((many : Int) % 2).toNat, by omega, by omega⟩
    obtain ⟨j, hj, hj1⟩ : ∃ k : Nat, (many : Int) % 2980 = (k : Int) ∧ k < 2980 := ⟨((many : Int) % 2980).toNat, by omega, by omega⟩
    have l1 : (⟨((List.replicate k (cs "-")).flatten).toArray⟩ : Str).length = k * 1 := rep_len _ _
    have l2 : (⟨((List.replicate j (cs "7")).flatten).toArray⟩ : Str).length = j * 1 := rep_len _ _
    have k1 : (Str.ofString "a: give b ").length = 10 := by decide +kernel
    refine ⟨_, rfl, _, _, rfl, rfl, (by show (0 : Int) < 2; decide), cs "-", k, by decide +kernel, congrArg V.int hk, by decide, by omega, ?_, _, _, rfl, rfl, ?_, _, rfl, _, _, rfl, rfl, (by show (0 : Int) < 2980; decide), cs "7", j, by decide +kernel, congrArg V.int hj, by decide, by omega, ?_, _, _, rfl, rfl, ?_, ?_⟩
    · show 1 * k ≤ 1000000; omega
    · exact line _ (by omega)
    · show 1 * j ≤ 1000000; omega
    · exact line _ (by rw [app_len]; omega)
    · exact fin _ _ (by rw [app_len, app_len]; omega) (Same.refl _) b3
  refine ⟨_, rfl, rfl, _, rfl, iteD (fun c => ?_) (fun c => ?_)⟩
  · obtain ⟨k, hk, hk1⟩ : ∃ k : Nat, (many : Int) % 300 = (k : Int) ∧ k < 300 := ⟨((many : Int) % 300).toNat, by omega, by omega⟩
    refine ⟨⟨_, rfl⟩, _, rfl, _, _, rfl, rfl, (by show (0 : Int) < 300; decide), ?_⟩
    dsimp only
    rw [hk]
    refine ⟨_, rfl, by omega, by omega, fun D hD => ?_⟩
    rw [Int.toNat_natCast]
    have hDb := b2.ne hD
    refine lc_it walk_range (fun i H' => Same H2 (hid D H') ∧ ∃ ys : List Str, H' D = some (.lst (ys.map V.str)) ∧ ys.length = i ∧ ∀ y ∈ ys, y.length ≤ 8)
      ⟨by rw [hid_upd]; exact same_hid hD (Same.refl _), [], upd_same, rfl, by simp⟩ (fun _ _ _ _ => trivial) (fun i x H3 H4 hi ⟨s3, ys, e3, l3, m3⟩ y => ?_) (fun H3 ⟨s3, ys, e3, l3, m3⟩ => ?_)
    · obtain ⟨eH, rfl⟩ := yfn0 y
      cases eH
      refine ⟨rfl, (by show 3 ≤ sizeLine; decide), fun p hp => ?_⟩
      obtain ⟨z, hat, hz8⟩ : ∃ z : Str, atI [V.str "wait", V.str "give b 1", V.str "call a 0"] ((i : Int) % 3) = some (V.str z) ∧ z.length ≤ 8 := by
        have h : (i : Int) % 3 = 0 ∨ (i : Int) % 3 = 1 ∨ (i : Int) % 3 = 2 := by omega
        rcases h with h | h | h <;> rw [h]
        · exact ⟨_, at0, by decide +kernel⟩
        · exact ⟨_, at1, by decide +kernel⟩
        · exact ⟨_, at2, by decide +kernel⟩
      have s4 := same_new (o := .lst [V.str "wait", V.str "give b 1", V.str "call a 0"]) hp
      have e4 := s4 _ _ e3
      refine ⟨_, rfl, _, _, rfl, rfl, (by show (0 : Int) < 3; decide), p, _, _, _, rfl, rfl, SqL.of upd_same, hat, _, e4, ?_, ?_, ys ++ [z], ?_, ?_, ?_⟩
      · rw [List.length_map]; exact small1000 (by omega)
      · rw [hid_upd]; exact s3.trans (hid_same s4)
      · rw [upd_same, List.map_append]; rfl
      · rw [List.length_append, l3]; rfl
      · intro y hy
        rcases List.mem_append.mp hy with h | h
        · exact m3 y h
        · rw [List.mem_singleton.mp h]; exact hz8
    · refine ⟨(by show 1 ≤ sizeLine; decide), fun p hp => ?_⟩
      have s4 := same_new (o := .lst [V.str "wait"]) hp
      refine ⟨D, p, _, _, rfl, rfl, s4 _ _ e3, upd_same, ?_, fun p2 hp2 => ?_⟩
      · rw [List.length_map, List.length_singleton]; exact line _ (by omega)
      have s5 := same_new (o := .lst ((ys ++ [("wait" : Str)]).map V.str)) hp2
      have m4 : ∀ y ∈ ys ++ [("wait" : Str)], y.length ≤ 8 := fun y hy => by
        rcases List.mem_append.mp hy with h | h
        · exact m3 y h
        · rw [List.mem_singleton.mp h]; decide +kernel
      have l4 : (ys ++ [("wait" : Str)]).length = k + 1 := by rw [List.length_append, l3]; rfl
      have ss := sum_le m4
      have jj := join_le (sep := Str.ofString ", ") m4
      have k1 : (Str.ofString "a: ").length = 3 := by decide +kernel
      have k2 : (Str.ofString ", ").length = 2 := by decide +kernel
      rw [l4] at ss jj
      rw [k2] at jj
      refine ⟨_, p2, ys ++ [("wait" : Str)], rfl, rfl, .inl (SqL.of (by rw [List.map_append]; exact upd_same)), ?_, _, _, rfl, rfl, ?_, ?_⟩
      · rw [l4, k2]; omega
      · exact line _ (by omega)
      · refine fin _ _ (by rw [app_len]; omega) (SameBut.of ((s3.trans hid_le).trans (s4.trans ?_))) (((b3.same (s3.trans hid_le)).same s4).same ?_)
        · rw [List.map_append] at s5; exact s5
        · rw [List.map_append] at s5; exact s5
  refine ⟨_, rfl, rfl, _, rfl, iteD (fun c => ?_) (fun c => ?_)⟩
  · obtain ⟨k, hk, hk1⟩ : ∃ k : Nat, (many : Int) % 590 = (k : Int) ∧ k < 590 := ⟨((many : Int) % 590).toNat, by omega, by omega⟩
    refine ⟨⟨_, rfl⟩, _, rfl, _, _, rfl, rfl, (by show (0 : Int) < 590; decide), ?_⟩
    dsimp only
    rw [hk]
    refine ⟨_, rfl, by omega, by omega, fun D hD => ?_⟩
    rw [Int.toNat_natCast]
    refine lc_it walk_range (fun i H' => Same H2 (hid D H') ∧ ∃ ys : List Str, H' D = some (.lst (ys.map V.str)) ∧ ys.length = i ∧ ∀ y ∈ ys, y.length ≤ 3)
      ⟨by rw [hid_upd]; exact same_hid hD (Same.refl _), [], upd_same, rfl, by simp⟩ (fun _ _ _ _ => trivial) (fun i x H3 H4 hi ⟨s3, ys, e3, l3, m3⟩ y => ?_) (fun H3 ⟨s3, ys, e3, l3, m3⟩ => ?_)
    · obtain ⟨eH, rfl⟩ := yfn0 y
      cases eH
      obtain ⟨c1, _, hc1⟩ := letter_at (r := (i : Int) / 26) (by omega) (by omega)
      obtain ⟨c2, _, hc2⟩ := letter_at (r := (i : Int) % 26) (by omega) (by omega)
      refine ⟨rfl, _, rfl, _, rfl, _, _, rfl, rfl, wide_div (by decide) (by decide : (26 : Int).natAbs < 2 ^ 100) (by decide) (by decide), _, _, c1, rfl, rfl, by decide, hc1, _, rfl, _, rfl, _, _, rfl, rfl, (by show (0 : Int) < 26; decide), _, _, c2, rfl, rfl, by decide, hc2, _, _, rfl, rfl, (by show 2 ≤ sizeLine; decide), _, _, rfl, rfl, ?_, _, e3, ?_, ?_, ys ++ [(⟨#[c1]⟩ : Str) ++ ⟨#[c2]⟩ ++ (":" : Str)], ?_, ?_, ?_⟩
      · rw [app_len]; exact line _ (by show 1 + 1 + (Str.ofString ":").length ≤ _; decide +kernel)
      · rw [List.length_map, l3]; exact Nat.lt_of_lt_of_le hi (line _ (by omega))
      · rw [hid_upd]; exact s3
      · rw [upd_same, List.map_append]; rfl
      · rw [List.length_append, l3]; rfl
      · intro y hy
        rcases List.mem_append.mp hy with h | h
        · exact m3 y h
        · rw [List.mem_singleton.mp h, app_len, app_len]
          show 1 + 1 + (Str.ofString ":").length ≤ 3
          decide +kernel
    · have ss := sum_le m3
      have jj := join_le (sep := Str.ofString "; ") m3
      have k2 : (Str.ofString "; ").length = 2 := by decide +kernel
      rw [l3] at ss jj
      rw [k2] at jj
      refine ⟨_, D, ys, rfl, rfl, .inl (SqL.of e3), ?_, fin _ _ (by omega) (SameBut.of (s3.trans hid_le)) (b3.same (s3.trans hid_le))⟩
      rw [l3, k2]; omega
  obtain ⟨k, hk, hk1⟩ : ∃ k : Nat, (many : Int) % 240 = (k : Int) ∧ k < 240 := ⟨((many : Int) % 240).toNat, by omega, by omega⟩
  refine ⟨_, rfl, _, _, rfl, rfl, (by show (0 : Int) < 240; decide), ?_⟩
  dsimp only
  rw [hk]
  have k1 : (Str.ofString "a: ").length = 3 := by decide +kernel
  have k4 : (Str.ofString "wait").length = 4 := by decide +kernel
  refine ⟨_, rfl, _, _, rfl, rfl, _, rfl, iteD (fun c => ?_) (fun c => ?_)⟩
  · have hk2 : k < 120 := by omega
    refine ⟨⟨_, rfl⟩, _, rfl, _, rfl, by omega, by omega, fun D hD => ?_⟩
    rw [Int.toNat_natCast]
    refine lc_it walk_range (fun i H' => Same H2 (hid D H') ∧ ∃ ys : List Str, H' D = some (.lst (ys.map V.str)) ∧ ys.length = i ∧ ∀ y ∈ ys, y.length ≤ 20)
      ⟨by rw [hid_upd]; exact same_hid hD (Same.refl _), [], upd_same, rfl, by simp⟩ (fun _ _ _ _ => trivial) (fun i x H3 H4 hi ⟨s3, ys, e3, l3, m3⟩ y => ?_) (fun H3 ⟨s3, ys, e3, l3, m3⟩ => ?_)
    · obtain ⟨eH, rfl⟩ := yfn0 y
      cases eH
      refine ⟨rfl, _, rfl, (by show (0 : Nat) + 9 ≤ sizeLine; decide), ?_⟩
      have hki : (0 : Int) < (k : Int) - (i : Int) := by omega
      refine ⟨_, rfl, _, rfl, _, _, rfl, rfl, .inl ⟨by omega, by omega⟩, _, rfl, _, rfl, _, _, rfl, rfl, _, _, rfl, rfl, hki, _, _, rfl, rfl, ?_⟩
      obtain ⟨m, hm, hm1⟩ : ∃ m : Nat, 1 + ((i : Int) * (i : Int)) % ((k : Int) - (i : Int)) = (m : Int) ∧ m < 131 := by
        have h1 := Int.emod_nonneg ((i : Int) * (i : Int)) (by omega : (k : Int) - (i : Int) ≠ 0)
        have h2 := Int.emod_lt_of_pos ((i : Int) * (i : Int)) hki
        exact ⟨(1 + ((i : Int) * (i : Int)) % ((k : Int) - (i : Int))).toNat, by omega, by omega⟩
      have hmz : ∀ j : Nat, j < 131 → (Str.ofString (toString (j : Int))).length ≤ 8 := by decide +kernel
      have hl := hmz m hm1
      have k9 : (Str.empty ++ Str.ofString "skip arg ").length = 9 := by decide +kernel
      refine .inr ⟨_, rfl, ?_, _, rfl, ?_, _, e3, ?_, ?_, ys ++ [Str.empty ++ Str.ofString "skip arg " ++ Str.ofString (toString (m : Int))], ?_, ?_, ?_⟩
      · show Nat.log2 (Int.natAbs (1 + ((i : Int) * (i : Int)) % ((k : Int) - (i : Int)))) < _
        rw [hm]
        exact PySem.Flt.log2_lt_of (by decide) (Nat.lt_of_lt_of_le (m := 131) (by omega) (by decide +kernel))
      · show (Str.empty ++ Str.ofString "skip arg " ++ Str.ofString (toString (1 + ((i : Int) * (i : Int)) % ((k : Int) - (i : Int))))).length ≤ _
        rw [hm, app_len, k9]
        exact line _ (by omega)
      · rw [List.length_map, l3]; exact Nat.lt_of_lt_of_le hi (line _ (by omega))
      · rw [hid_upd]; exact s3
      · rw [upd_same, List.map_append]
        show some (HO.lst (ys.map V.str ++ [V.str (Str.empty ++ Str.ofString "skip arg " ++ Str.ofString (toString (1 + ((i : Int) * (i : Int)) % ((k : Int) - (i : Int)))))])) = _
        rw [hm]; rfl
      · rw [List.length_append, l3]; rfl
      · intro y hy
        rcases List.mem_append.mp hy with h | h
        · exact m3 y h
        · rw [List.mem_singleton.mp h, app_len, k9]; omega
    · refine ⟨(by show 1 ≤ sizeLine; decide), fun p hp => ?_⟩
      have s4 := same_new (o := .lst [V.str "wait"]) hp
      refine ⟨D, p, _, _, rfl, rfl, s4 _ _ e3, upd_same, ?_, fun p2 hp2 => ?_⟩
      · rw [List.length_map, List.length_singleton]; exact line _ (by omega)
      have s5 := same_new (o := .lst ((ys ++ [("wait" : Str)]).map V.str)) hp2
      have m4 : ∀ y ∈ ys ++ [("wait" : Str)], y.length ≤ 20 := fun y hy => by
        rcases List.mem_append.mp hy with h | h
        · exact m3 y h
        · rw [List.mem_singleton.mp h]; decide +kernel
      have l4 : (ys ++ [("wait" : Str)]).length = k + 1 := by rw [List.length_append, l3]; rfl
      have ss := sum_le m4
      have jj := join_le (sep := Str.ofString ", ") m4
      have k2 : (Str.ofString ", ").length = 2 := by decide +kernel
      rw [l4] at ss jj
      rw [k2] at jj
      refine ⟨_, p2, ys ++ [("wait" : Str)], rfl, rfl, .inl (SqL.of (by rw [List.map_append]; exact upd_same)), ?_, _, _, rfl, rfl, ?_, ?_⟩
      · rw [l4, k2]; omega
      · exact line _ (by omega)
      · refine fin _ _ (by rw [app_len]; omega) (SameBut.of ((s3.trans hid_le).trans (s4.trans ?_))) (((b3.same (s3.trans hid_le)).same s4).same ?_)
        · rw [List.map_append] at s5; exact s5
        · rw [List.map_append] at s5; exact s5
  · have l1 : (⟨((List.replicate k (cs "skip arg 1, ")).flatten).toArray⟩ : Str).length = k * 12 := rep_len _ _
    refine ⟨_, rfl, cs "skip arg 1, ", k, by decide +kernel, rfl, by decide, by omega, ?_, _, _, rfl, rfl, ?_, _, _, rfl, rfl, ?_, ?_⟩
    · show 12 * k ≤ 1000000; omega
    · exact line _ (by omega)
    · exact line _ (by rw [app_len]; omega)
    · exact fin _ _ (by rw [app_len, app_len]; omega) (Same.refl _) b3
end K55
namespace K55
open PySem PySem.Spec PyProof.Rows L2 PreX FG
variable {P : Program} {w : World} {K : PySem.W.Frag} {mg : Str → Option Value} {base : Heap}

theorem sqL_same {H H' : Hp} {a : Addr} {xs : List V} : SqL K H a xs → Same H H' → SqL K H' a xs
  | .inl (.inl h), s => .inl (.inl (s _ _ h))
  | .inl (.inr ⟨o, h⟩), s => .inl (.inr ⟨o, s _ _ h⟩)
  | .inr h, _ => .inr h
def spLaw (K : PySem.W.Frag) : Sp := fun vs H Q _ => ∃ (a : Addr) (ns : List Int), vs = [.ref a] ∧ SqL K H a (ns.map V.int) ∧ ns.length ≤ 63 ∧ ∀ H', Q (.bl true) H'
theorem ok_law (t : T w K mg) : FnOk P w K mg base CX0 40 t.a_law t.d_law ["script"] (spLaw K) := by
  refine t.F_law.ok sc_law (fun vs H Q E h => ?_) (fun cdv A outer s H vs Q E hr h => ?_)
  · obtain ⟨a, ns, rfl, _⟩ := h
    rfl
  obtain ⟨a, ns, rfl, ha, hns, q⟩ := h
  refine ⟨_, PSs.nox ((pss_cons (ps_set (i := 1) sc_law.nd rfl (by first | exact Or.inl rfl | exact Or.inr rfl) (pe_call (ok_law_bag t) (hr.mono (by decide)) rfl t.g_law_bag t.F_law_bag.kp (b_law_bag t) .nil pass0 (pa_cons (pe_call (ok_law_cell_at t) (hr.mono (by decide)) rfl t.g_law_cell_at t.F_law_cell_at.kp (b_law_cell_at t) .nil pass0 (pa_cons (pv 0) (pa_cons pe_int pa_nil))) (pa_cons pe_int pa_nil))))
    (pss_cons (ps_set (i := 2) sc_law.nd rfl (by first | exact Or.inl rfl | exact Or.inr rfl) (pe_call (ok_law_long t) (hr.mono (by decide)) rfl t.g_law_long t.F_law_long.kp (b_law_long t) .nil pass0 (pa_cons (pv 1) pa_nil)))
    (pss_cons (ps_set (i := 3) sc_law.nd rfl (by first | exact Or.inl rfl | exact Or.inr rfl) (pe_call (ok_law_draw t) (hr.mono (by decide)) rfl t.g_law_draw t.F_law_draw.kp (b_law_draw t) .nil pass0 (pa_cons (pv 1) (pa_cons (pe_op op_add (pe_callB call_len_str (by rfl) t.z_len (by decide +kernel) (pa_cons (pv 2) pa_nil)) pe_int) pa_nil))))
    (pss_cons (ps_set (i := 4) sc_law.nd rfl (by first | exact Or.inl rfl | exact Or.inr rfl) (pe_op op_add_str (pe_op op_add_str (pe_slice sl_str (pv 2) po_none (po_some (pv 3))) (pe_call (ok_law_sign t) (hr.mono (by decide)) rfl t.g_law_sign t.F_law_sign.kp (b_law_sign t) .nil pass0 (pa_cons (pv 1) pa_nil))) (pe_slice sl_str (pv 2) (po_some (pe_op op_add (pv 3) pe_int)) po_none)))
    (pss_cons (ps_for PassesOwn.never rfl (pi_list_k K rfl (pe_lst (pa_cons (pv 2) (pa_cons (pe_slice sl_str (pv 4) po_none (po_some pe_int)) pa_nil)))) (pg_name (i := 5) sc_law.nd rfl (by first | exact Or.inl rfl | exact Or.inr rfl))
    (pss_cons (ps_if (pt_not (pt_val (pe_call (ok_law_asked t) (hr.mono (by decide)) rfl t.g_law_asked t.F_law_asked.kp (b_law_asked t) .nil pass0 (pa_cons (pv 5) pa_nil)))) (pss_one (ps_ret pe_bl))
    pss_nil)
    (pss_cons (ps_set (i := 6) sc_law.nd rfl (by first | exact Or.inl rfl | exact Or.inr rfl) (pe_call (ok_law_read t) (hr.mono (by decide)) rfl t.g_law_read t.F_law_read.kp (b_law_read t) .nil pass0 (pa_cons (pv 5) pa_nil)))
    (pss_one (ps_if (PW.pt (pw_and (pt_cmpR op_notN (pv 6) pe_non (by first | exact nomark _ | rfl)) (pw_and1 (pt_cmpR op_ne (pe_call (ok_show_program t) (hr.mono (by decide)) rfl t.g_show_program t.F_show_program.kp (b_show_program t) .nil pass0 (pa_cons (pv 6) pa_nil)) (pv 5) (by first | exact nomark _ | rfl))))) (pss_one (ps_ret pe_bl))
    pss_nil)))))
    (pss_one (ps_ret pe_bl)))))))), ?_⟩
  refine ⟨_, rfl, a, ns, 0, rfl, ha, by omega, fun c => ⟨c, 0, rfl, by omega, by omega, fun b H2 hb s2 sb2 b2 => ?_⟩⟩
  refine ⟨_, rfl, b, 0, rfl, b2, by decide, fun x H3 hx s3 b3 => ?_⟩
  have hz : x.length ≤ sizeLine := line _ (by omega)
  refine ⟨_, rfl, _, rfl, _, rfl, hz, _, _, rfl, rfl, b, _, 3, rfl, by omega, ?_, b3, by decide, fun at_ H4 a0 a1 s4 b4 => ?_⟩
  · have : (x.length : Int) + 1 ≤ 4000 := by omega
    exact Int.lt_of_le_of_lt this (by decide)
  obtain ⟨l, rfl⟩ : ∃ l : L, x = S l := ⟨_, (S_of x).symm⟩
  rw [S_len] at hx a1
  obtain ⟨k, rfl⟩ : ∃ k : Nat, at_ = (k : Int) := ⟨at_.toNat, by omega⟩
  refine ⟨_, rfl, _, rfl, _, rfl, _, rfl, hz, _, rfl, b, 4, rfl, b4, by decide, fun c H5 hc s5 b5 => ?_⟩
  rw [cutS_to]
  refine ⟨_, _, rfl, rfl, ?_, _, rfl, _, rfl, _, _, rfl, rfl, _, rfl, _, rfl, hz, _, _, rfl, rfl, ?_, ?_⟩
  · rw [S_len, S_len, List.length_take, List.length_singleton]; exact line _ (by omega)
  · have e : cutS (S l) (some ((k : Int) + 1)) none = S (l.drop (k + 1)) := cutS_from l (k + 1)
    rw [app_len, S_len, S_len, e, S_len, List.length_take, List.length_drop, List.length_singleton]
    exact line _ (by omega)
  have e : cutS (S l) (some ((k : Int) + 1)) none = S (l.drop (k + 1)) := cutS_from l (k + 1)
  dsimp only
  rw [e, S_app, S_app]
  obtain ⟨m, hm⟩ : ∃ m, l.take k ++ [c] ++ l.drop (k + 1) = m := ⟨_, rfl⟩
  have lm : m.length ≤ 4000 := by
    rw [← hm, List.length_append, List.length_append, List.length_take, List.length_drop, List.length_singleton]
    omega
  rw [hm]
  have hzm : (S m).length ≤ sizeLine := by rw [S_len]; exact line _ (by omega)
  refine ⟨_, rfl, _, rfl, _, rfl, _, rfl, hzm, (by show 2 ≤ sizeLine; decide), fun pl hpl => ?_⟩
  have e3 : cutS (S m) none (some 3000) = S (m.take 3000) := cutS_to m 3000
  rw [e3]
  have epl : (upd H5 pl (.lst [.str (S l), .str (S (m.take 3000))])) pl = some (.lst ([l, m.take 3000].map fun x => V.str (S x))) := upd_same
  generalize upd H5 pl (.lst [.str (S l), .str (S (m.take 3000))]) = H6 at *
  refine ⟨pl, rfl, ⟨_, SqL.of epl⟩, ?_⟩
  have each : ∀ x ∈ [l, m.take 3000], x.length ≤ 3700 := fun x hx2 => by
    simp only [List.mem_cons, List.not_mem_nil, or_false] at hx2
    rcases hx2 with rfl | rfl
    · omega
    · rw [List.length_take]; omega
  refine for_it (walk_list (K := K) (a := pl) (xs := [l, m.take 3000].map fun x => V.str (S x))) (fun i σ H' => Same H6 H' ∧ ∃ v1 v2 v3 v4 v5 v6 : Option V, σ = [some (.ref a), v1, v2, v3, v4, v5, v6])
    ⟨Same.refl _, _, _, _, _, _, _, rfl⟩ (fun i σ H' _ ⟨p1, _⟩ => SqL.of (p1 _ _ epl)) (fun i x σ H7 H8 hi ⟨s7, v1, v2, v3, v4, v5, v6, hσ⟩ y => ?_) (fun σ H7 _ => q H7)
  subst hσ
  obtain ⟨rfl, hxi⟩ := y
  rw [List.getElem?_map] at hxi
  obtain ⟨o, ho, rfl⟩ := Option.map_eq_some_iff.mp hxi
  have lo := each o (List.mem_of_getElem? ho)
  have ro : runs 3999 o := runs.short (by omega)
  refine ⟨_, rfl, .inl ⟨o, rfl, by omega, ro⟩, fun H9 s9 => ⟨_, rfl, iteF ?_⟩⟩
  refine ⟨_, rfl, .inl ⟨o, rfl, by omega, ro, fun hno H10 s10 => ?_, fun p hp v H10 s10 dv => ?_⟩⟩
  · exact ⟨_, rfl, rfl, _, rfl, (s7.trans s9).trans s10, _, _, _, _, _, _, rfl⟩
  · obtain ⟨hsh, hip⟩ := sh_readProg hp
    obtain ⟨p', hraw, hp'⟩ := Option.bind_eq_some_iff.mp hp
    have hpp : p' = p := by
      have hp2 : (if isProg p' = true then some p' else none) = some p := hp'
      split at hp2
      · exact Option.some.inj hp2
      · cases hp2
    rw [hpp] at hraw
    have hok := raw_ok hraw (by omega)
    have hfew := few_readRaw hraw (runs.short (by omega))
    have hv : v ≠ .non := fun z => by rw [z] at dv; cases dv
    refine ⟨_, rfl, rfl, _, rfl, iteDN (fun _ => ?_) (fun z => absurd z hv)⟩
    refine ⟨_, rfl, v, p, rfl, dv, hip, hok.1, fun h hh => (hok.2 h hh).2.1, hfew, by rw [hsh]; omega, fun H11 s11 => ⟨_, rfl, rfl, _, rfl, ?_⟩⟩
    rw [hsh, decide_eq_true rfl]
    exact ⟨((s7.trans s9).trans s10).trans s11, _, _, _, _, _, _, rfl⟩
end K55
namespace K55
open PySem PySem.Spec PyProof.Rows L2
def dd_NoProgram__init : He.DefD := ⟨("NoProgram", some "__init__"), "__init__", "NoProgram.__init__", defArgs s_NoProgram__init, defBody s_NoProgram__init, defScope s_NoProgram__init, [], []⟩
def dd_NoHelper__init : He.DefD := ⟨("NoHelper", some "__init__"), "__init__", "NoHelper.__init__", defArgs s_NoHelper__init, defBody s_NoHelper__init, defScope s_NoHelper__init, [], []⟩
def dd_TooLong__init : He.DefD := ⟨("TooLong", some "__init__"), "__init__", "TooLong.__init__", defArgs s_TooLong__init, defBody s_TooLong__init, defScope s_TooLong__init, [], []⟩
def dd_NoHand__init : He.DefD := ⟨("NoHand", some "__init__"), "__init__", "NoHand.__init__", defArgs s_NoHand__init, defBody s_NoHand__init, defScope s_NoHand__init, [], []⟩
def dd_is_whole : He.DefD := ⟨("is_whole", none), "is_whole", "is_whole", defArgs s_is_whole, defBody s_is_whole, defScope s_is_whole, [], []⟩
def dd_is_name : He.DefD := ⟨("is_name", none), "is_name", "is_name", defArgs s_is_name, defBody s_is_name, defScope s_is_name, [], []⟩
def dd_is_expression : He.DefD := ⟨("is_expression", none), "is_expression", "is_expression", defArgs s_is_expression, defBody s_is_expression, defScope s_is_expression, [He.Dv.int 5], []⟩
def dd_is_step : He.DefD := ⟨("is_step", none), "is_step", "is_step", defArgs s_is_step, defBody s_is_step, defScope s_is_step, [], []⟩
def dd_has_form : He.DefD := ⟨("has_form", none), "has_form", "has_form", defArgs s_has_form, defBody s_has_form, defScope s_has_form, [], []⟩
def dd_first_wrong : He.DefD := ⟨("first_wrong", none), "first_wrong", "first_wrong", defArgs s_first_wrong, defBody s_first_wrong, defScope s_first_wrong, [], []⟩
def dd_is_program : He.DefD := ⟨("is_program", none), "is_program", "is_program", defArgs s_is_program, defBody s_is_program, defScope s_is_program, [], []⟩
def dd_show_expression : He.DefD := ⟨("show_expression", none), "show_expression", "show_expression", defArgs s_show_expression, defBody s_show_expression, defScope s_show_expression, [], []⟩
def dd_show_step : He.DefD := ⟨("show_step", none), "show_step", "show_step", defArgs s_show_step, defBody s_show_step, defScope s_show_step, [], []⟩
def dd_show_program : He.DefD := ⟨("show_program", none), "show_program", "show_program", defArgs s_show_program, defBody s_show_program, defScope s_show_program, [], []⟩
def dd_read_number : He.DefD := ⟨("read_number", none), "read_number", "read_number", defArgs s_read_number, defBody s_read_number, defScope s_read_number, [], []⟩
def dd_parted : He.DefD := ⟨("parted", none), "parted", "parted", defArgs s_parted, defBody s_parted, defScope s_parted, [], []⟩
def dd_read_expression : He.DefD := ⟨("read_expression", none), "read_expression", "read_expression", defArgs s_read_expression, defBody s_read_expression, defScope s_read_expression, [He.Dv.int 5], []⟩
def dd_read_step : He.DefD := ⟨("read_step", none), "read_step", "read_step", defArgs s_read_step, defBody s_read_step, defScope s_read_step, [], []⟩
def dd_read_helper : He.DefD := ⟨("read_helper", none), "read_helper", "read_helper", defArgs s_read_helper, defBody s_read_helper, defScope s_read_helper, [], []⟩
def dd_read_program : He.DefD := ⟨("read_program", none), "read_program", "read_program", defArgs s_read_program, defBody s_read_program, defScope s_read_program, [], []⟩
def dd_law_cell_at : He.DefD := ⟨("_law_cell_at", none), "_law_cell_at", "_law_cell_at", defArgs s_law_cell_at, defBody s_law_cell_at, defScope s_law_cell_at, [], []⟩
def dd_law_bag : He.DefD := ⟨("_law_bag", none), "_law_bag", "_law_bag", defArgs s_law_bag, defBody s_law_bag, defScope s_law_bag, [], []⟩
def dd_law_draw : He.DefD := ⟨("_law_draw", none), "_law_draw", "_law_draw", defArgs s_law_draw, defBody s_law_draw, defScope s_law_draw, [], []⟩
def dd_law_sign : He.DefD := ⟨("_law_sign", none), "_law_sign", "_law_sign", defArgs s_law_sign, defBody s_law_sign, defScope s_law_sign, [], []⟩
def dd_law_is_name : He.DefD := ⟨("_law_is_name", none), "_law_is_name", "_law_is_name", defArgs s_law_is_name, defBody s_law_is_name, defScope s_law_is_name, [], []⟩
def dd_law_is_whole : He.DefD := ⟨("_law_is_whole", none), "_law_is_whole", "_law_is_whole", defArgs s_law_is_whole, defBody s_law_is_whole, defScope s_law_is_whole, [], []⟩
def dd_law_is_expression : He.DefD := ⟨("_law_is_expression", none), "_law_is_expression", "_law_is_expression", defArgs s_law_is_expression, defBody s_law_is_expression, defScope s_law_is_expression, [], []⟩
def dd_law_is_step : He.DefD := ⟨("_law_is_step", none), "_law_is_step", "_law_is_step", defArgs s_law_is_step, defBody s_law_is_step, defScope s_law_is_step, [], []⟩
def dd_law_wrong : He.DefD := ⟨("_law_wrong", none), "_law_wrong", "_law_wrong", defArgs s_law_wrong, defBody s_law_wrong, defScope s_law_wrong, [], []⟩
def dd_law_number_read : He.DefD := ⟨("_law_number_read", none), "_law_number_read", "_law_number_read", defArgs s_law_number_read, defBody s_law_number_read, defScope s_law_number_read, [], []⟩
def dd_law_expression_read : He.DefD := ⟨("_law_expression_read", none), "_law_expression_read", "_law_expression_read", defArgs s_law_expression_read, defBody s_law_expression_read, defScope s_law_expression_read, [], []⟩
def dd_law_letters : He.DefD := ⟨("_law_letters", none), "_law_letters", "_law_letters", defArgs s_law_letters, defBody s_law_letters, defScope s_law_letters, [], []⟩
def dd_law_step_read : He.DefD := ⟨("_law_step_read", none), "_law_step_read", "_law_step_read", defArgs s_law_step_read, defBody s_law_step_read, defScope s_law_step_read, [], []⟩
def dd_law_helper_read : He.DefD := ⟨("_law_helper_read", none), "_law_helper_read", "_law_helper_read", defArgs s_law_helper_read, defBody s_law_helper_read, defScope s_law_helper_read, [], []⟩
def dd_law_read : He.DefD := ⟨("_law_read", none), "_law_read", "_law_read", defArgs s_law_read, defBody s_law_read, defScope s_law_read, [], []⟩
def dd_law_plain_refusal : He.DefD := ⟨("_law_plain_refusal", none), "_law_plain_refusal", "_law_plain_refusal", defArgs s_law_plain_refusal, defBody s_law_plain_refusal, defScope s_law_plain_refusal, [], []⟩
def dd_law_asked : He.DefD := ⟨("_law_asked", none), "_law_asked", "_law_asked", defArgs s_law_asked, defBody s_law_asked, defScope s_law_asked, [], []⟩
def dd_law_long : He.DefD := ⟨("_law_long", none), "_law_long", "_law_long", defArgs s_law_long, defBody s_law_long, defScope s_law_long, [], []⟩
def dd_law : He.DefD := ⟨("law", none), "law", "law", defArgs s_law, defBody s_law, defScope s_law, [], []⟩
def kv_PARTS : List (Str × He.Dv) := [("arg", He.Dv.int 0), ("cell", He.Dv.int 1), ("add", He.Dv.int 2), ("less", He.Dv.int 2), ("least", He.Dv.int 2)]
def fns : List He.DefD := [dd_NoProgram__init, dd_NoHelper__init, dd_TooLong__init, dd_NoHand__init, dd_is_whole, dd_is_name, dd_is_expression, dd_is_step, dd_has_form, dd_first_wrong, dd_is_program, dd_show_expression, dd_show_step, dd_show_program, dd_read_number, dd_parted, dd_read_expression, dd_read_step, dd_read_helper, dd_read_program, dd_law_cell_at, dd_law_bag, dd_law_draw, dd_law_sign, dd_law_is_name, dd_law_is_whole, dd_law_is_expression, dd_law_is_step, dd_law_wrong, dd_law_number_read, dd_law_expression_read, dd_law_letters, dd_law_step_read, dd_law_helper_read, dd_law_read, dd_law_plain_refusal, dd_law_asked, dd_law_long, dd_law]
def fas : List He.Fa := [.glo "WorkError", .exc "WorkError", .glo "NoProgram", .glo "NoHelper", .glo "TooLong", .glo "NoMark", .exc "NoMark", .glo "NoHand", .glo "NotOver", .exc "NotOver", .glo "NoText", .exc "NoText", .glo "is_whole", .glo "is_name", .glo "is_expression", .glo "is_step", .glo "has_form", .glo "first_wrong", .glo "is_program", .glo "show_expression", .glo "show_step", .glo "show_program", .glo "read_number", .glo "parted", .glo "read_expression", .glo "read_step", .glo "read_helper", .glo "read_program", .glo "_law_cell_at", .glo "_law_bag", .glo "_law_draw", .glo "_law_sign", .glo "_law_is_name", .glo "_law_is_whole", .glo "_law_is_expression", .glo "_law_is_step", .glo "_law_wrong", .glo "_law_number_read", .glo "_law_expression_read", .glo "_law_letters", .glo "_law_step_read", .glo "_law_helper_read", .glo "_law_read", .glo "_law_plain_refusal", .glo "_law_asked", .glo "_law_long", .glo "law", .free "ValueError", .free "all", .free "bool", .free "enumerate", .free "int", .free "isinstance", .free "len", .free "list", .free "max", .free "range", .free "str", .free "tuple", .free "zip", .str "LETTERS" "abcdefghijklmnopqrstuvwxyz", .int "LONGEST_NAME" 8, .glo "PARTS", .str "FIGURES" "0123456789", .exm "NoText" "WorkError" true]
def tabs : List He.Tab := [(fun K => He.ga K "PARTS", ["arg", "cell", "add", "less", "least"])]
def exs (K : PySem.W.Frag) : Bool := He.valsB K (He.ga K "PARTS") kv_PARTS && (XT.excB K (He.ga K "NoText")) && (decide (PySem.W.kitAny K (.ref (He.ga K "NoText")) [.ref (He.ga K "NoHand"), .ref (He.ga K "NoHelper"), .ref (He.ga K "NoMark"), .ref (He.ga K "NoProgram"), .ref (He.ga K "NotOver"), .ref (He.ga K "TooLong")] = some false)) && (decide (PySem.W.kitOne K (.ref (He.ga K "NoText")) (.ref (He.ga K "NoText")) = some true)) && (decide (PySem.W.kitOne K (.ref (He.ga K "NoText")) (.type "ValueError") = some true)) && (XD.digB K)
abbrev R : PySem.W.OpenRow := PySem.W.OpenLaw.row PySem.Challenge.rw_forkgather_k55_long_texts
abbrev hk : PySem.W.Hook := XH.hookY 5 fas fns tabs exs
def ob (s : PySem.W.SharedT) : He.AlX := XH.obsY 5 fas fns tabs exs (HandSHeadRun.getT s)
theorem ob_eq (s : PySem.W.SharedT) : ob s = hk.obs s.abs := XH.obsY_eq (HandSHeadRun.getT_eq s)
def names0 : List Str := ["WorkError", "NoProgram", "NoHelper", "TooLong", "NoMark", "NoHand", "NotOver", "NoText", "LETTERS", "LONGEST_NAME", "PARTS", "is_whole", "is_name", "is_expression", "is_step", "has_form", "first_wrong", "is_program", "FIGURES", "show_expression", "show_step", "show_program", "read_number", "parted", "read_expression", "read_step", "read_helper", "read_program", "_law_cell_at", "_law_bag"]
def names1 : List Str := ["_law_draw", "_law_sign", "_law_is_name", "_law_is_whole", "_law_is_expression", "_law_is_step", "_law_wrong", "_law_number_read", "_law_expression_read", "_law_letters", "_law_step_read", "_law_helper_read", "_law_read", "_law_plain_refusal", "_law_asked", "_law_long"]
def namesL : List Str := names0 ++ names1
abbrev RunP (w : World) : Prop := HandSHeadRun.RunEq R (PySem.W.view R.prog [50]) hk ob 20000 namesL w
theorem run0 (w : World) : RunP (PySem.World.withFollow w "special-get-raises" false) := by
  intro os
  kernel_rfl
theorem run1 (w : World) : RunP (PySem.World.withFollow w "special-get-raises" true) := by
  intro os
  kernel_rfl
theorem run (w : World) : RunP w := PySem.W.byRow2 "special-get-raises" (P := RunP) run0 run1 w
noncomputable def mkT {w : World} {K : PySem.W.Frag} {h : Heap} {mg : Str → Option Value} (X : K.In h) (G : h.Ns mainGlobals mg) (c0 : He.SaysX fas fns tabs [] exs w h K) : T w K mg := by
  have c := c0.t
  have hm := c0.more
  unfold exs at hm
  simp only [Bool.and_eq_true] at hm
  obtain ⟨⟨⟨⟨⟨hv_PARTS, hx_xc_NoText⟩, hx_ki_NoText⟩, hx_kn_NoText⟩, hx_kv_NoText⟩, hx_dg⟩ := hm
  exact {
    C_WorkError := He.ga K "WorkError",
    g_WorkError := He.glo_ok X G (c.d.fact 0 (f := .glo "WorkError") rfl),
    x_WorkError := He.exc_ok (c.d.fact 1 (f := .exc "WorkError") rfl),
    C_NoProgram := He.ga K "NoProgram",
    g_NoProgram := He.glo_ok X G (c.d.fact 2 (f := .glo "NoProgram") rfl),
    C_NoHelper := He.ga K "NoHelper",
    g_NoHelper := He.glo_ok X G (c.d.fact 3 (f := .glo "NoHelper") rfl),
    C_TooLong := He.ga K "TooLong",
    g_TooLong := He.glo_ok X G (c.d.fact 4 (f := .glo "TooLong") rfl),
    C_NoMark := He.ga K "NoMark",
    g_NoMark := He.glo_ok X G (c.d.fact 5 (f := .glo "NoMark") rfl),
    x_NoMark := He.exc_ok (c.d.fact 6 (f := .exc "NoMark") rfl),
    C_NoHand := He.ga K "NoHand",
    g_NoHand := He.glo_ok X G (c.d.fact 7 (f := .glo "NoHand") rfl),
    C_NotOver := He.ga K "NotOver",
    g_NotOver := He.glo_ok X G (c.d.fact 8 (f := .glo "NotOver") rfl),
    x_NotOver := He.exc_ok (c.d.fact 9 (f := .exc "NotOver") rfl),
    C_NoText := He.ga K "NoText",
    g_NoText := He.glo_ok X G (c.d.fact 10 (f := .glo "NoText") rfl),
    x_NoText := He.exc_ok (c.d.fact 11 (f := .exc "NoText") rfl),
    a_NoProgram__init := He.fAd K ("NoProgram", some "__init__"),
    d_NoProgram__init := (c.d.def_ 0 (d := dd_NoProgram__init) rfl).choose,
    F_NoProgram__init := (c.d.def_ 0 (d := dd_NoProgram__init) rfl).choose_spec,
    a_NoHelper__init := He.fAd K ("NoHelper", some "__init__"),
    d_NoHelper__init := (c.d.def_ 1 (d := dd_NoHelper__init) rfl).choose,
    F_NoHelper__init := (c.d.def_ 1 (d := dd_NoHelper__init) rfl).choose_spec,
    a_TooLong__init := He.fAd K ("TooLong", some "__init__"),
    d_TooLong__init := (c.d.def_ 2 (d := dd_TooLong__init) rfl).choose,
    F_TooLong__init := (c.d.def_ 2 (d := dd_TooLong__init) rfl).choose_spec,
    a_NoHand__init := He.fAd K ("NoHand", some "__init__"),
    d_NoHand__init := (c.d.def_ 3 (d := dd_NoHand__init) rfl).choose,
    F_NoHand__init := (c.d.def_ 3 (d := dd_NoHand__init) rfl).choose_spec,
    a_is_whole := He.fAd K ("is_whole", none),
    d_is_whole := (c.d.def_ 4 (d := dd_is_whole) rfl).choose,
    F_is_whole := (c.d.def_ 4 (d := dd_is_whole) rfl).choose_spec,
    g_is_whole := He.glo_ok X G (c.d.fact 12 (f := .glo "is_whole") rfl),
    a_is_name := He.fAd K ("is_name", none),
    d_is_name := (c.d.def_ 5 (d := dd_is_name) rfl).choose,
    F_is_name := (c.d.def_ 5 (d := dd_is_name) rfl).choose_spec,
    g_is_name := He.glo_ok X G (c.d.fact 13 (f := .glo "is_name") rfl),
    a_is_expression := He.fAd K ("is_expression", none),
    d_is_expression := (c.d.def_ 6 (d := dd_is_expression) rfl).choose,
    F_is_expression := (c.d.def_ 6 (d := dd_is_expression) rfl).choose_spec,
    g_is_expression := He.glo_ok X G (c.d.fact 14 (f := .glo "is_expression") rfl),
    a_is_step := He.fAd K ("is_step", none),
    d_is_step := (c.d.def_ 7 (d := dd_is_step) rfl).choose,
    F_is_step := (c.d.def_ 7 (d := dd_is_step) rfl).choose_spec,
    g_is_step := He.glo_ok X G (c.d.fact 15 (f := .glo "is_step") rfl),
    a_has_form := He.fAd K ("has_form", none),
    d_has_form := (c.d.def_ 8 (d := dd_has_form) rfl).choose,
    F_has_form := (c.d.def_ 8 (d := dd_has_form) rfl).choose_spec,
    g_has_form := He.glo_ok X G (c.d.fact 16 (f := .glo "has_form") rfl),
    a_first_wrong := He.fAd K ("first_wrong", none),
    d_first_wrong := (c.d.def_ 9 (d := dd_first_wrong) rfl).choose,
    F_first_wrong := (c.d.def_ 9 (d := dd_first_wrong) rfl).choose_spec,
    g_first_wrong := He.glo_ok X G (c.d.fact 17 (f := .glo "first_wrong") rfl),
    a_is_program := He.fAd K ("is_program", none),
    d_is_program := (c.d.def_ 10 (d := dd_is_program) rfl).choose,
    F_is_program := (c.d.def_ 10 (d := dd_is_program) rfl).choose_spec,
    g_is_program := He.glo_ok X G (c.d.fact 18 (f := .glo "is_program") rfl),
    a_show_expression := He.fAd K ("show_expression", none),
    d_show_expression := (c.d.def_ 11 (d := dd_show_expression) rfl).choose,
    F_show_expression := (c.d.def_ 11 (d := dd_show_expression) rfl).choose_spec,
    g_show_expression := He.glo_ok X G (c.d.fact 19 (f := .glo "show_expression") rfl),
    a_show_step := He.fAd K ("show_step", none),
    d_show_step := (c.d.def_ 12 (d := dd_show_step) rfl).choose,
    F_show_step := (c.d.def_ 12 (d := dd_show_step) rfl).choose_spec,
    g_show_step := He.glo_ok X G (c.d.fact 20 (f := .glo "show_step") rfl),
    a_show_program := He.fAd K ("show_program", none),
    d_show_program := (c.d.def_ 13 (d := dd_show_program) rfl).choose,
    F_show_program := (c.d.def_ 13 (d := dd_show_program) rfl).choose_spec,
    g_show_program := He.glo_ok X G (c.d.fact 21 (f := .glo "show_program") rfl),
    a_read_number := He.fAd K ("read_number", none),
    d_read_number := (c.d.def_ 14 (d := dd_read_number) rfl).choose,
    F_read_number := (c.d.def_ 14 (d := dd_read_number) rfl).choose_spec,
    g_read_number := He.glo_ok X G (c.d.fact 22 (f := .glo "read_number") rfl),
    a_parted := He.fAd K ("parted", none),
    d_parted := (c.d.def_ 15 (d := dd_parted) rfl).choose,
    F_parted := (c.d.def_ 15 (d := dd_parted) rfl).choose_spec,
    g_parted := He.glo_ok X G (c.d.fact 23 (f := .glo "parted") rfl),
    a_read_expression := He.fAd K ("read_expression", none),
    d_read_expression := (c.d.def_ 16 (d := dd_read_expression) rfl).choose,
    F_read_expression := (c.d.def_ 16 (d := dd_read_expression) rfl).choose_spec,
    g_read_expression := He.glo_ok X G (c.d.fact 24 (f := .glo "read_expression") rfl),
    a_read_step := He.fAd K ("read_step", none),
    d_read_step := (c.d.def_ 17 (d := dd_read_step) rfl).choose,
    F_read_step := (c.d.def_ 17 (d := dd_read_step) rfl).choose_spec,
    g_read_step := He.glo_ok X G (c.d.fact 25 (f := .glo "read_step") rfl),
    a_read_helper := He.fAd K ("read_helper", none),
    d_read_helper := (c.d.def_ 18 (d := dd_read_helper) rfl).choose,
    F_read_helper := (c.d.def_ 18 (d := dd_read_helper) rfl).choose_spec,
    g_read_helper := He.glo_ok X G (c.d.fact 26 (f := .glo "read_helper") rfl),
    a_read_program := He.fAd K ("read_program", none),
    d_read_program := (c.d.def_ 19 (d := dd_read_program) rfl).choose,
    F_read_program := (c.d.def_ 19 (d := dd_read_program) rfl).choose_spec,
    g_read_program := He.glo_ok X G (c.d.fact 27 (f := .glo "read_program") rfl),
    a_law_cell_at := He.fAd K ("_law_cell_at", none),
    d_law_cell_at := (c.d.def_ 20 (d := dd_law_cell_at) rfl).choose,
    F_law_cell_at := (c.d.def_ 20 (d := dd_law_cell_at) rfl).choose_spec,
    g_law_cell_at := He.glo_ok X G (c.d.fact 28 (f := .glo "_law_cell_at") rfl),
    a_law_bag := He.fAd K ("_law_bag", none),
    d_law_bag := (c.d.def_ 21 (d := dd_law_bag) rfl).choose,
    F_law_bag := (c.d.def_ 21 (d := dd_law_bag) rfl).choose_spec,
    g_law_bag := He.glo_ok X G (c.d.fact 29 (f := .glo "_law_bag") rfl),
    a_law_draw := He.fAd K ("_law_draw", none),
    d_law_draw := (c.d.def_ 22 (d := dd_law_draw) rfl).choose,
    F_law_draw := (c.d.def_ 22 (d := dd_law_draw) rfl).choose_spec,
    g_law_draw := He.glo_ok X G (c.d.fact 30 (f := .glo "_law_draw") rfl),
    a_law_sign := He.fAd K ("_law_sign", none),
    d_law_sign := (c.d.def_ 23 (d := dd_law_sign) rfl).choose,
    F_law_sign := (c.d.def_ 23 (d := dd_law_sign) rfl).choose_spec,
    g_law_sign := He.glo_ok X G (c.d.fact 31 (f := .glo "_law_sign") rfl),
    a_law_is_name := He.fAd K ("_law_is_name", none),
    d_law_is_name := (c.d.def_ 24 (d := dd_law_is_name) rfl).choose,
    F_law_is_name := (c.d.def_ 24 (d := dd_law_is_name) rfl).choose_spec,
    g_law_is_name := He.glo_ok X G (c.d.fact 32 (f := .glo "_law_is_name") rfl),
    a_law_is_whole := He.fAd K ("_law_is_whole", none),
    d_law_is_whole := (c.d.def_ 25 (d := dd_law_is_whole) rfl).choose,
    F_law_is_whole := (c.d.def_ 25 (d := dd_law_is_whole) rfl).choose_spec,
    g_law_is_whole := He.glo_ok X G (c.d.fact 33 (f := .glo "_law_is_whole") rfl),
    a_law_is_expression := He.fAd K ("_law_is_expression", none),
    d_law_is_expression := (c.d.def_ 26 (d := dd_law_is_expression) rfl).choose,
    F_law_is_expression := (c.d.def_ 26 (d := dd_law_is_expression) rfl).choose_spec,
    g_law_is_expression := He.glo_ok X G (c.d.fact 34 (f := .glo "_law_is_expression") rfl),
    a_law_is_step := He.fAd K ("_law_is_step", none),
    d_law_is_step := (c.d.def_ 27 (d := dd_law_is_step) rfl).choose,
    F_law_is_step := (c.d.def_ 27 (d := dd_law_is_step) rfl).choose_spec,
    g_law_is_step := He.glo_ok X G (c.d.fact 35 (f := .glo "_law_is_step") rfl),
    a_law_wrong := He.fAd K ("_law_wrong", none),
    d_law_wrong := (c.d.def_ 28 (d := dd_law_wrong) rfl).choose,
    F_law_wrong := (c.d.def_ 28 (d := dd_law_wrong) rfl).choose_spec,
    g_law_wrong := He.glo_ok X G (c.d.fact 36 (f := .glo "_law_wrong") rfl),
    a_law_number_read := He.fAd K ("_law_number_read", none),
    d_law_number_read := (c.d.def_ 29 (d := dd_law_number_read) rfl).choose,
    F_law_number_read := (c.d.def_ 29 (d := dd_law_number_read) rfl).choose_spec,
    g_law_number_read := He.glo_ok X G (c.d.fact 37 (f := .glo "_law_number_read") rfl),
    a_law_expression_read := He.fAd K ("_law_expression_read", none),
    d_law_expression_read := (c.d.def_ 30 (d := dd_law_expression_read) rfl).choose,
    F_law_expression_read := (c.d.def_ 30 (d := dd_law_expression_read) rfl).choose_spec,
    g_law_expression_read := He.glo_ok X G (c.d.fact 38 (f := .glo "_law_expression_read") rfl),
    a_law_letters := He.fAd K ("_law_letters", none),
    d_law_letters := (c.d.def_ 31 (d := dd_law_letters) rfl).choose,
    F_law_letters := (c.d.def_ 31 (d := dd_law_letters) rfl).choose_spec,
    g_law_letters := He.glo_ok X G (c.d.fact 39 (f := .glo "_law_letters") rfl),
    a_law_step_read := He.fAd K ("_law_step_read", none),
    d_law_step_read := (c.d.def_ 32 (d := dd_law_step_read) rfl).choose,
    F_law_step_read := (c.d.def_ 32 (d := dd_law_step_read) rfl).choose_spec,
    g_law_step_read := He.glo_ok X G (c.d.fact 40 (f := .glo "_law_step_read") rfl),
    a_law_helper_read := He.fAd K ("_law_helper_read", none),
    d_law_helper_read := (c.d.def_ 33 (d := dd_law_helper_read) rfl).choose,
    F_law_helper_read := (c.d.def_ 33 (d := dd_law_helper_read) rfl).choose_spec,
    g_law_helper_read := He.glo_ok X G (c.d.fact 41 (f := .glo "_law_helper_read") rfl),
    a_law_read := He.fAd K ("_law_read", none),
    d_law_read := (c.d.def_ 34 (d := dd_law_read) rfl).choose,
    F_law_read := (c.d.def_ 34 (d := dd_law_read) rfl).choose_spec,
    g_law_read := He.glo_ok X G (c.d.fact 42 (f := .glo "_law_read") rfl),
    a_law_plain_refusal := He.fAd K ("_law_plain_refusal", none),
    d_law_plain_refusal := (c.d.def_ 35 (d := dd_law_plain_refusal) rfl).choose,
    F_law_plain_refusal := (c.d.def_ 35 (d := dd_law_plain_refusal) rfl).choose_spec,
    g_law_plain_refusal := He.glo_ok X G (c.d.fact 43 (f := .glo "_law_plain_refusal") rfl),
    a_law_asked := He.fAd K ("_law_asked", none),
    d_law_asked := (c.d.def_ 36 (d := dd_law_asked) rfl).choose,
    F_law_asked := (c.d.def_ 36 (d := dd_law_asked) rfl).choose_spec,
    g_law_asked := He.glo_ok X G (c.d.fact 44 (f := .glo "_law_asked") rfl),
    a_law_long := He.fAd K ("_law_long", none),
    d_law_long := (c.d.def_ 37 (d := dd_law_long) rfl).choose,
    F_law_long := (c.d.def_ 37 (d := dd_law_long) rfl).choose_spec,
    g_law_long := He.glo_ok X G (c.d.fact 45 (f := .glo "_law_long") rfl),
    a_law := He.fAd K ("law", none),
    d_law := (c.d.def_ 38 (d := dd_law) rfl).choose,
    F_law := (c.d.def_ 38 (d := dd_law) rfl).choose_spec,
    g_law := He.glo_ok X G (c.d.fact 46 (f := .glo "law") rfl),
    z_ValueError := He.free_ok X G (c.d.fact 47 (f := .free "ValueError") rfl),
    z_all := He.free_ok X G (c.d.fact 48 (f := .free "all") rfl),
    z_bool := He.free_ok X G (c.d.fact 49 (f := .free "bool") rfl),
    z_enumerate := He.free_ok X G (c.d.fact 50 (f := .free "enumerate") rfl),
    z_int := He.free_ok X G (c.d.fact 51 (f := .free "int") rfl),
    z_isinstance := He.free_ok X G (c.d.fact 52 (f := .free "isinstance") rfl),
    z_len := He.free_ok X G (c.d.fact 53 (f := .free "len") rfl),
    z_list := He.free_ok X G (c.d.fact 54 (f := .free "list") rfl),
    z_max := He.free_ok X G (c.d.fact 55 (f := .free "max") rfl),
    z_range := He.free_ok X G (c.d.fact 56 (f := .free "range") rfl),
    z_str := He.free_ok X G (c.d.fact 57 (f := .free "str") rfl),
    z_tuple := He.free_ok X G (c.d.fact 58 (f := .free "tuple") rfl),
    z_zip := He.free_ok X G (c.d.fact 59 (f := .free "zip") rfl),
    k_LETTERS := He.str_ok X G (c.d.fact 60 (f := .str "LETTERS" "abcdefghijklmnopqrstuvwxyz") rfl),
    k_LONGEST_NAME := He.int_ok X G (c.d.fact 61 (f := .int "LONGEST_NAME" 8) rfl),
    A_PARTS := He.ga K "PARTS",
    g_PARTS := He.glo_ok X G (c.d.fact 62 (f := .glo "PARTS") rfl),
    kw_PARTS := PreX.tabraw c 0 rfl,
    kd_PARTS := c.tab 0 rfl,
    kv_PARTS_arg := He.valsB_ok (kvs := kv_PARTS) hv_PARTS (q := ("arg", He.Dv.int 0)) (by simp [kv_PARTS]),
    kv_PARTS_cell := He.valsB_ok (kvs := kv_PARTS) hv_PARTS (q := ("cell", He.Dv.int 1)) (by simp [kv_PARTS]),
    kv_PARTS_add := He.valsB_ok (kvs := kv_PARTS) hv_PARTS (q := ("add", He.Dv.int 2)) (by simp [kv_PARTS]),
    kv_PARTS_less := He.valsB_ok (kvs := kv_PARTS) hv_PARTS (q := ("less", He.Dv.int 2)) (by simp [kv_PARTS]),
    kv_PARTS_least := He.valsB_ok (kvs := kv_PARTS) hv_PARTS (q := ("least", He.Dv.int 2)) (by simp [kv_PARTS]),
    k_FIGURES := He.str_ok X G (c.d.fact 63 (f := .str "FIGURES" "0123456789") rfl),
    e_NoText_WorkError := He.exm_ok (c.d.fact 64 (f := .exm "NoText" "WorkError" true) rfl),
    xc_NoText := XT.excB_ok hx_xc_NoText,
    ki_NoText := of_decide_eq_true hx_ki_NoText,
    kn_NoText := of_decide_eq_true hx_kn_NoText,
    kv_NoText := of_decide_eq_true hx_kv_NoText,
    dg := hx_dg }
theorem facts {P : Program} {w : World} {K : PySem.W.Frag} {h : Heap} {mg : Str → Option Value} {f : Addr} (X : K.In h) (G : h.Ns mainGlobals mg) (hfa : mg ("law" : Str) = some (.ref f)) (c : He.SaysX fas fns tabs [] exs w h K) :
    ∃ fd : FuncData, (∀ (s : Shared) (v : Value), BindsTo s fd ⟨[v], []⟩ [("script", v)]) ∧ ∀ base : Heap, K.In base → base.Ns mainGlobals mg → FnOk P w K mg base CX0 40 f fd ["script"] (spLaw K) := by
  have t := mkT X G c
  have e := hfa.symm.trans t.g_law
  cases e
  have b := FunD.bindsA (ps := ["script"]) t.F_law fun _ _ _ _ _ _ us hl => match us, hl with | [_], _ => rfl
  exact ⟨t.d_law, fun s v => b s [v] rfl, fun base _ _ => ok_law t⟩
end K55
open PySem PySem.W PySem.Calls PyProof.Rows
set_option maxRecDepth 100000 in
set_option maxHeartbeats 0 in
theorem PySem.Challenge.cw_forkgather_k55_long_texts_holds : PySem.Challenge.rw_forkgather_k55_long_texts.Holds := by
  w_on; o_law
  refine HandSHeadRun.head_any (r := OpenLaw.row PySem.Challenge.rw_forkgather_k55_long_texts) (q := view (OpenLaw.row PySem.Challenge.rw_forkgather_k55_long_texts).prog [50]) (H := K55.hk) (ob := K55.ob) (M := 20000) (loose := K55.namesL) (d := HandSHeadRun.topDef (OpenLaw.row PySem.Challenge.rw_forkgather_k55_long_texts).prog 50) (kwd := []) K55.ob_eq
    (by kernel_rfl) (fun s => by kernel_rfl) K55.run (by kernel_rfl) (by kernel_rfl) (by kernel_rfl) (by rfl) (by first | assumption | decide +kernel) (by decide +kernel) ⟨rfl, rfl, rfl, rfl, rfl, by decide +kernel⟩ ?hw ?hc
  case hw => w_witness2
  case hc =>
    refine L2.walk_ofE (l := PySem.Challenge.rw_forkgather_k55_long_texts) (n := 63) (k := 40) (x := "script") (CX := L2.CX0) rfl (by decide) (by kernel_rfl) ⟨rfl, by decide, by decide⟩ ?F (fun _ _ _ _ z => z)
    intro w mg fa h Y G hmg0
    obtain ⟨K, KX, c⟩ := Y
    have hmg : mg ("law" : PySem.Str) = some (.ref fa) := by
      have e : (HandSHeadRun.topDef (OpenLaw.row PySem.Challenge.rw_forkgather_k55_long_texts).prog 50).name = ("law" : PySem.Str) := by kernel_rfl
      rw [← e]
      exact hmg0
    obtain ⟨fd, hb, hF⟩ := K55.facts (P := (PySem.Challenge.rw_forkgather_k55_long_texts).prog) (w := w) KX G hmg c
    exact ⟨K, fd, K55.spLaw K, KX, hb, fun H a ns hl _ hS => ⟨a, ns, rfl, hS, hl, fun _ => rfl⟩, hF⟩
