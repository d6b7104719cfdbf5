import PyProof.Rows.All
import Wide.All
import OpenK.AllK
import Wide.FinOn
import HandS.ForMost
import HandS.ForExc
import HandS.TupAny
import HandS.Wide
import HandS.Small
import HandS.More
import HandS.IsInst
import HandS.ListEq
import PyProof.EqLayable
import PyProof.NeKinds
import PyProof.NeData
import HandS.NoneIn
import HandS.SortInts
import HandS.ExcIs
import HandS.HotCalls
import HandS.Defaults
import HandS.HeadHook2
import HandS.Head0
import HandS.Head1
import HandS.Head2
import HandS.HeadEnd
import HandS.HeadHook1
import PySem.Challenge.RW_patchbough_k23_change
section
set_option Elab.async false
set_option maxRecDepth 100000
set_option maxHeartbeats 1000000
namespace RD
open PySem PySem.Spec PyProof.Rows L2
/-! ## values: what an operation asks, by the values and the heap as it is read -/
/-- an address as it is read: a locked object is what it is -/
def vw (H : Hp) (a : Addr) : Option HO := match H a with
  | some (.frz _ u) => some u
  | o => o
theorem rd_vw {H : Hp} {a : Addr} {u : HO} (h : vw H a = some u) : Rd H a u := by
  unfold vw at h
  split at h
  · rename_i o u' e
    cases h
    exact .inr ⟨o, e⟩
  · exact .inl h
theorem sqL_vw {K : PySem.W.Frag} {H : Hp} {a : Addr} {xs : List V} (h : vw H a = some (.lst xs)) : SqL K H a xs := .inl (rd_vw h)
theorem sqT_vw {K : PySem.W.Frag} {H : Hp} {a : Addr} {xs : List V} (h : vw H a = some (.tup xs)) : SqT K H a xs := .inl (rd_vw h)
def keyOf : V → Option Key
  | .int i => some (.inl i)
  | .str s => some (.inr s)
  | _ => none
theorem keyOf_kV {y : V} {k : Key} (h : keyOf y = some k) : y = kV k := by
  cases y <;> simp [keyOf] at h <;> subst h <;> rfl
theorem dget_vw {H : Hp} {a : Addr} {kvs : List (Key × V)} {y : V} {k : Key} (h : vw H a = some (.dK kvs)) (hk : keyOf y = some k) : DGet H a y (valV kvs k) := by
  rw [keyOf_kV hk]
  exact .inl ⟨kvs, k, rd_vw h, rfl, rfl⟩
/-! ### o[i] -/
def ixV (H : Hp) (x y : V) : Option V := match x with
  | .ref a => (match vw H a with
    | some (.lst xs) => (match y with
      | .int i => atI xs i
      | _ => none)
    | some (.tup xs) => (match y with
      | .int i => atI xs i
      | _ => none)
    | some (.dK kvs) => (keyOf y).bind (valV kvs)
    | _ => none)
  | .str z => (match y with
    | .int i => if z.length ≤ sizeLine then (atI z.cps.toList i).map fun c => .str ⟨#[c]⟩ else none
    | _ => none)
  | _ => none
def rIx : R2 := fun x y H Q => ∃ v, ixV H x y = some v ∧ Q v H
section
variable {X : Cx}
theorem ix_dict (hu : X.A.units + 1 < cLine) : IxR X (fun x y H Q => ∃ a v, x = .ref a ∧ DGet H a y (some v) ∧ Q v H) := by
  intro value slice pins s σ H x y v u Q I rx ry h hs
  obtain ⟨a, z, rfl, g, q⟩ := h
  obtain rfl : v = Value.ref a := rx
  exact tail_any (dict_typeIs I g) PySem.F.slot_dict_getitem.lookup (d_getItem hu I g ry fun w' s' I' rw' => ⟨z, H, I', rw', q⟩) hs
theorem ix_any (hu : X.A.units + 1 < cLine) : IxR X rIx := by
  intro value slice pins s σ H x y v u Q I rx ry h hs
  obtain ⟨z, e, q⟩ := h
  unfold ixV at e
  split at e
  · rename_i a
    split at e
    · rename_i xs ea
      split at e
      · rename_i i
        exact ix_list value slice pins s σ H _ _ v u Q I rx ry ⟨a, xs, i, z, rfl, rfl, sqL_vw ea, e, q⟩ hs
      · cases e
    · rename_i xs ea
      split at e
      · rename_i i
        exact ix_tup value slice pins s σ H _ _ v u Q I rx ry ⟨a, xs, i, z, rfl, rfl, sqT_vw ea, e, q⟩ hs
      · cases e
    · rename_i kvs ea
      cases hk : keyOf y with
      | none => rw [hk] at e; cases e
      | some k =>
        rw [hk] at e
        have g := dget_vw (y := y) ea hk
        have e' : valV kvs k = some z := e
        rw [e'] at g
        exact ix_dict hu value slice pins s σ H _ _ v u Q I rx ry ⟨a, z, rfl, g, q⟩ hs
    · cases e
  · rename_i t
    split at e
    · rename_i i
      split at e
      · rename_i hz
        cases ec : atI t.cps.toList i with
        | none => rw [ec] at e; cases e
        | some c =>
          rw [ec] at e
          cases e
          exact ix_str value slice pins s σ H _ _ v u Q I rx ry ⟨t, i, c, rfl, rfl, hz, ec, q⟩ hs
      · cases e
    · cases e
  · cases e
/-! ### o[i:j] -/
/-- the value is a tuple of these -/
def TupAt (H : Hp) (v : V) (xs : List V) : Prop := ∃ a, v = .ref a ∧ vw H a = some (.tup xs)
theorem same_new {H : Hp} {p : Addr} (h : H p = none) (o : HO) : Same H (upd H p o) := fun b u q => by rw [upd_ne (ne_of_none q h)]; exact q
theorem vw_of {H : Hp} {a : Addr} {o : HO} (h : H a = some o) (hf : ∀ x y, o ≠ .frz x y) : vw H a = some o := by
  unfold vw
  rw [h]
  split
  · rename_i x y e
    cases e
    exact absurd rfl (hf x y)
  · rfl
theorem vw_lst {H : Hp} {a : Addr} {xs : List V} (h : H a = some (.lst xs)) : vw H a = some (.lst xs) := vw_of h (fun _ _ z => by cases z)
theorem vw_tup {H : Hp} {a : Addr} {xs : List V} (h : H a = some (.tup xs)) : vw H a = some (.tup xs) := vw_of h (fun _ _ z => by cases z)
theorem vw_dK {H : Hp} {a : Addr} {xs : List (Key × V)} (h : H a = some (.dK xs)) : vw H a = some (.dK xs) := vw_of h (fun _ _ z => by cases z)
theorem vw_upd_same {H : Hp} {a : Addr} {o : HO} (hf : ∀ x y, o ≠ .frz x y) : vw (upd H a o) a = some o := vw_of upd_same hf
theorem vw_upd_ne {H : Hp} {a b : Addr} {o : HO} (h : b ≠ a) : vw (upd H a o) b = vw H b := by unfold vw; rw [upd_ne h]
theorem same_vw {H H' : Hp} (s : Same H H') {a : Addr} {o : HO} (h : vw H a = some o) : vw H' a = some o := by
  unfold vw at h ⊢
  cases e : H a with
  | none => rw [e] at h; cases h
  | some u => rw [s a u e]; rw [e] at h; exact h
theorem tupAt_new {H : Hp} {p : Addr} {xs : List V} : TupAt (upd H p (.tup xs)) (.ref p) xs := ⟨p, rfl, vw_upd_same (fun _ _ z => by cases z)⟩
def rSl : V → Option Int → Option Int → Hp → VK → Prop := fun x lo hi H Q => match x with
  | .ref a => (match vw H a with
    | some (.lst xs) => ∀ p, H p = none → Q (.ref p) (upd H p (.lst (cutV xs lo hi)))
    | some (.tup xs) => ∀ v H', Same H H' → TupAt H' v (cutV xs lo hi) → Q v H'
    | _ => False)
  | .str z => z.length ≤ sizeLine ∧ Q (.str (cutS z lo hi)) H
  | _ => False
theorem cutV_all {xs : List V} {lo hi : Option Int} (h : HT.sIx xs.length 0 lo = 0 ∧ HT.sIx xs.length xs.length hi = xs.length) : cutV xs lo hi = xs := by
  unfold cutV
  rw [h.1, h.2]
  simp
theorem sl_any : SlR X rSl := by
  intro pins s σ H x v vl vu lo hi sl Q I rx hs pl pu h
  unfold rSl at h
  split at h
  · rename_i a
    split at h
    · rename_i xs ea
      exact sl_list pins s σ H _ v vl vu lo hi sl Q I rx hs pl pu ⟨a, xs, rfl, sqL_vw ea, h⟩
    · rename_i xs ea
      exact sl_tupA pins s σ H _ v vl vu lo hi sl Q I rx hs pl pu ⟨a, xs, rfl, sqT_vw ea, fun hw => h _ _ (Same.refl H) ⟨a, rfl, by rw [cutV_all hw]; exact ea⟩, fun _ p hp => h _ _ (same_new hp _) tupAt_new⟩
    · exact h.elim
  · exact sl_str pins s σ H _ v vl vu lo hi sl Q I rx hs pl pu ⟨_, rfl, h.1, h.2⟩
  · exact h.elim
/-! ### operators -/
def rAdd : R2 := fun x y H Q => match x, y with
  | .int i, .int j => Q (.int (i + j)) H
  | .int i, .bl k => Q (.int (i + b2i k)) H
  | .str a, .str b => a.length + b.length ≤ sizeLine ∧ Q (.str (a ++ b)) H
  | .ref a, .ref b => (match vw H a with
    | some (.lst xs) => ∃ ys, H a = some (.lst xs) ∧ H b = some (.lst ys) ∧ xs.length + ys.length ≤ sizeLine ∧ ∀ p, H p = none → Q (.ref p) (upd H p (.lst (xs ++ ys)))
    | some (.tup xs) => ∃ ys, vw H b = some (.tup ys) ∧ xs.length + ys.length ≤ sizeLine ∧ ∀ v H', Same H H' → TupAt H' v (xs ++ ys) → Q v H'
    | _ => False)
  | _, _ => False
theorem add_any : OpR X (binaryOp .Add) rAdd := by
  intro pins s σ H x y v u Q I rx ry h
  unfold rAdd at h
  split at h
  · exact op_add pins s σ H _ _ v u Q I rx ry ⟨_, _, rfl, rfl, h⟩
  · exact op_add_ib pins s σ H _ _ v u Q I rx ry ⟨_, _, rfl, rfl, h⟩
  · exact op_add_str pins s σ H _ _ v u Q I rx ry ⟨_, _, rfl, rfl, h.1, h.2⟩
  · rename_i a b
    split at h
    · obtain ⟨ys, h1, h2, h3, h4⟩ := h
      exact op_cat pins s σ H _ _ v u Q I rx ry ⟨a, b, _, ys, rfl, rfl, h1, h2, h3, h4⟩
    · rename_i xs ea
      obtain ⟨ys, h2, h3, h4⟩ := h
      refine op_catA pins s σ H _ _ v u Q I rx ry ⟨a, b, xs, ys, rfl, rfl, sqT_vw ea, sqT_vw h2, h3, ?_⟩
      first
        | exact ⟨fun e => h4 _ _ (Same.refl H) ⟨b, rfl, by rw [e]; exact h2⟩, fun _ => ⟨fun e => h4 _ _ (Same.refl H) ⟨a, rfl, by rw [e, List.append_nil]; exact ea⟩, fun _ p hp => h4 _ _ (same_new hp _) tupAt_new⟩⟩
        | exact ⟨fun e => h4 _ _ (Same.refl H) ⟨b, rfl, by rw [e]; exact h2⟩, fun _ e => h4 _ _ (Same.refl H) ⟨a, rfl, by rw [e, List.append_nil]; exact ea⟩, fun _ _ p hp => h4 _ _ (same_new hp _) tupAt_new⟩
    · exact h.elim
  · exact h.elim
def rSub : R2 := rI0 fun i j => .int (i - j)
theorem sub_any : OpR X (binaryOp .Sub) rSub := op_sub
def rMul : R2 := fun x y H Q => match x, y with
  | .int i, .int j => CMulW i j ∧ Q (.int (i * j)) H
  | _, _ => False
theorem mul_any : OpR X (binaryOp .Mult) rMul := by
  intro pins s σ H x y v u Q I rx ry h
  unfold rMul at h
  split at h
  · exact op_mulW pins s σ H _ _ v u Q I rx ry ⟨_, _, rfl, rfl, h.1, h.2⟩
  · exact h.elim
def rDiv : R2 := rI CDivW fun i j => .int (i / j)
theorem div_any : OpR X (binaryOp .FloorDiv) rDiv := op_fdivW
def rMod : R2 := rI (fun _ j => 0 < j) fun i j => .int (i % j)
theorem mod_any : OpR X (binaryOp .Mod) rMod := op_mod
def rPow : R2 := rI CPow fun i j => .int (i ^ j.toNat)
theorem pow_any : OpR X (binaryOp .Pow) rPow := op_pow
def rBin : Operator → R2
  | .Add => rAdd
  | .Sub => rSub
  | .Mult => rMul
  | .FloorDiv => rDiv
  | .Mod => rMod
  | .Pow => rPow
  | _ => fun _ _ _ _ => False
theorem bin_any (op : Operator) : OpR X (binaryOp op) (rBin op) := by
  cases op
  case Add => exact add_any
  case Sub => exact sub_any
  case Mult => exact mul_any
  case FloorDiv => exact div_any
  case Mod => exact mod_any
  case Pow => exact pow_any
  all_goals exact fun _ _ _ _ _ _ _ _ _ _ _ _ h => h.elim
def rNeg : V → Hp → VK → Prop := rU fun i => .int (-i)
end


end RD
end
section
set_option Elab.async false
set_option maxRecDepth 100000
set_option maxHeartbeats 1000000
namespace RD
open PySem PySem.Spec PyProof.Rows L2
/-! ## comparisons -/
/-- flat items, place by place -/
def allEq (xs ys : List V) : Bool := (List.range (min xs.length ys.length)).all fun j => eqV (xs.getD j .non) (ys.getD j .non)
theorem flat_at {A : Around} {s : Shared} {xs ys : List V} {us ws : List Value} (r : Vals xs us) (r2 : Vals ys ws) (f : xs.all flatV = true) (f2 : ys.all flatV = true) : ∀ j (h1 : j < us.toArray.size) (h2 : j < ws.toArray.size), SeqAt.EqAt A s us.toArray[j] ws.toArray[j] (eqV (xs.getD j .non) (ys.getD j .non)) := by
  intro j h1 h2
  have l1 := r.length
  have l2 := r2.length
  rw [List.size_toArray] at h1 h2
  have g1 : j < xs.length := by omega
  have g2 : j < ys.length := by omega
  obtain ⟨u, e1, q1⟩ := r.get (List.getElem?_eq_getElem g1)
  obtain ⟨w, e2, q2⟩ := r2.get (List.getElem?_eq_getElem g2)
  rw [List.getElem?_eq_getElem h1] at e1
  rw [List.getElem?_eq_getElem h2] at e2
  rw [List.getElem_toArray, List.getElem_toArray, Option.some.inj e1, Option.some.inj e2, show xs.getD j .non = xs[j] by simp [List.getD, g1], show ys.getD j .non = ys[j] by simp [List.getD, g2]]
  exact eqAt_V q1 q2 (List.all_eq_true.mp f _ (List.getElem_mem g1)) (List.all_eq_true.mp f2 _ (List.getElem_mem g2))
/-- x == y answers b -/
inductive EqA (K : PySem.W.Frag) (H : Hp) : V → V → Bool → Prop
  | scal {x y : V} : scal x y = true → EqA K H x y (decide (x = y))
  | data {x y : V} {d e : PyData} : Dp K H x d → Dp K H y e → SeqAt.shaped d = true → SeqAt.shaped e = true → EqA K H x y (PyData.eqv d e)
  | lens {a b : Addr} {xs ys : List V} : vw H a = some (.lst xs) → vw H b = some (.lst ys) → xs.length ≠ ys.length → EqA K H (.ref a) (.ref b) false
  | flatL {a b : Addr} {xs ys : List V} : vw H a = some (.lst xs) → vw H b = some (.lst ys) → xs.length = ys.length → xs.all flatV = true → ys.all flatV = true → EqA K H (.ref a) (.ref b) (allEq xs ys)
  | flatT {a b : Addr} {xs ys : List V} : vw H a = some (.tup xs) → vw H b = some (.tup ys) → xs.all flatV = true → ys.all flatV = true → EqA K H (.ref a) (.ref b) (allEq xs ys && xs.length == ys.length)
def rEqA (K : PySem.W.Frag) : R2 := fun x y H Q => ∃ b, EqA K H x y b ∧ Q (.bl b) H
def rNeA (K : PySem.W.Frag) : R2 := fun x y H Q => ∃ b, EqA K H x y b ∧ Q (.bl (!b)) H
section
variable {X : Cx}
theorem lens_ne {H : Hp} {a b : Addr} {xs ys : List V} (ha : vw H a = some (.lst xs)) (hb : vw H b = some (.lst ys)) (hn : xs.length ≠ ys.length) : a ≠ b := fun e => by
  subst e
  rw [ha] at hb
  cases hb
  exact hn rfl
theorem eqA_ok (hu : X.A.units + 64 < cLine) : OpR X (compareOp .Eq) (rEqA X.K) := by
  intro pins s σ H x y v u Q I rx ry h
  obtain ⟨b, e, q⟩ := h
  cases e with
  | scal h => exact op_eq pins s σ H _ _ v u Q I rx ry ⟨h, q⟩
  | data h1 h2 h3 h4 => exact op_eqD hu pins s σ H _ _ v u Q I rx ry ⟨_, _, h1, h2, h3, h4, q⟩
  | lens ha hb hn =>
    cases rx
    cases ry
    obtain ⟨its, r1, p1, z1⟩ := I.list (sqL_vw ha)
    obtain ⟨its2, r2, p2, z2⟩ := I.list (sqL_vw hb)
    have hl1 := r1.length
    have hl2 := r2.length
    have hs : (its.toArray.size != its2.toArray.size) = true := by
      rw [List.size_toArray, List.size_toArray, bne_iff_ne]
      omega
    exact SeqAt.RcAt.lists_lengths p1.isList p2.isList hs (by omega) X.prog X.w X.xe _ ⟨.bl false, H, I, rfl, q⟩
  | flatL ha hb hn f1 f2 =>
    rename_i xs ys
    cases rx
    cases ry
    obtain ⟨its, r1, p1, z1⟩ := I.list (sqL_vw ha)
    obtain ⟨its2, r2, p2, z2⟩ := I.list (sqL_vw hb)
    have hl1 := r1.length
    have hl2 := r2.length
    have hs : its.toArray.size = its2.toArray.size := by
      rw [List.size_toArray, List.size_toArray]
      omega
    have e : (List.range its.toArray.size).all (fun j => eqV (xs.getD j .non) (ys.getD j .non)) = allEq xs ys := by
      unfold allEq
      rw [List.size_toArray, ← hl1, ← hn, Nat.min_self]
    refine SeqAt.RcAt.lists p1.isList p2.isList hs (by omega) (flat_at r1 r2 f1 f2) X.prog X.w X.xe _ ⟨.bl (allEq xs ys), H, I, ?_, q⟩
    rw [e]
    rfl
  | flatT ha hb f1 f2 =>
    rename_i xs ys
    cases rx
    cases ry
    obtain ⟨its, r1, p1, z1⟩ := I.tuple (sqT_vw ha)
    obtain ⟨its2, r2, p2, z2⟩ := I.tuple (sqT_vw hb)
    have hl1 := r1.length
    have hl2 := r2.length
    have e : ((List.range (min its.toArray.size its2.toArray.size)).all (fun j => eqV (xs.getD j .non) (ys.getD j .non)) && its.toArray.size == its2.toArray.size) = (allEq xs ys && xs.length == ys.length) := by
      unfold allEq
      rw [List.size_toArray, List.size_toArray, ← hl1, ← hl2]
    refine SeqAt.RcAt.tuples p1 p2 (by omega) (flat_at r1 r2 f1 f2) X.prog X.w X.xe _ ⟨.bl ((allEq xs ys && xs.length == ys.length)), H, I, ?_, q⟩
    rw [e]
    rfl
theorem neA_ok (hu : X.A.units + 64 < cLine) : OpR X (compareOp .NotEq) (rNeA X.K) := by
  intro pins s σ H x y v u Q I rx ry h
  obtain ⟨b, e, q⟩ := h
  cases e with
  | scal h => exact op_ne pins s σ H _ _ v u Q I rx ry ⟨h, q⟩
  | data h1 h2 h3 h4 => exact op_neD hu pins s σ H _ _ v u Q I rx ry ⟨_, _, h1, h2, h3, h4, q⟩
  | lens ha hb hn =>
    cases rx
    cases ry
    obtain ⟨its, r1, p1, z1⟩ := I.list (sqL_vw ha)
    obtain ⟨its2, r2, p2, z2⟩ := I.list (sqL_vw hb)
    have hl1 := r1.length
    have hl2 := r2.length
    have hs : (its.toArray.size != its2.toArray.size) = true := by
      rw [List.size_toArray, List.size_toArray, bne_iff_ne]
      omega
    exact SeqAt.RcNeAt.lists_lengths p1.isList p2.isList hs (by omega) X.prog X.w X.xe _ ⟨.bl true, H, I, rfl, q⟩
  | flatL ha hb hn f1 f2 =>
    rename_i xs ys
    cases rx
    cases ry
    obtain ⟨its, r1, p1, z1⟩ := I.list (sqL_vw ha)
    obtain ⟨its2, r2, p2, z2⟩ := I.list (sqL_vw hb)
    have hl1 := r1.length
    have hl2 := r2.length
    have hs : its.toArray.size = its2.toArray.size := by
      rw [List.size_toArray, List.size_toArray]
      omega
    have e : (List.range its.toArray.size).all (fun j => eqV (xs.getD j .non) (ys.getD j .non)) = allEq xs ys := by
      unfold allEq
      rw [List.size_toArray, ← hl1, ← hn, Nat.min_self]
    refine SeqAt.RcNeAt.lists p1.isList p2.isList hs (by omega) (flat_at r1 r2 f1 f2) X.prog X.w X.xe _ ⟨.bl (!allEq xs ys), H, I, ?_, q⟩
    rw [e]
    rfl
  | flatT ha hb f1 f2 =>
    rename_i xs ys
    cases rx
    cases ry
    obtain ⟨its, r1, p1, z1⟩ := I.tuple (sqT_vw ha)
    obtain ⟨its2, r2, p2, z2⟩ := I.tuple (sqT_vw hb)
    have hl1 := r1.length
    have hl2 := r2.length
    have e : ((List.range (min its.toArray.size its2.toArray.size)).all (fun j => eqV (xs.getD j .non) (ys.getD j .non)) && its.toArray.size == its2.toArray.size) = (allEq xs ys && xs.length == ys.length) := by
      unfold allEq
      rw [List.size_toArray, List.size_toArray, ← hl1, ← hl2]
    refine SeqAt.RcNeAt.tuples p1 p2 (by omega) (flat_at r1 r2 f1 f2) X.prog X.w X.xe _ ⟨.bl (!(allEq xs ys && xs.length == ys.length)), H, I, ?_, q⟩
    rw [e]
    rfl
/-! ### in, not in -/
def strIn (x y : Str) : Bool := !(Builtin.Str.occurrences y x 0 y.length 1).isEmpty
def inA (H : Hp) (x y : V) : Option Bool := match y with
  | .str t => (match x with
    | .str s => some (strIn s t)
    | _ => none)
  | .ref a => (match vw H a with
    | some (.dK kvs) => (keyOf x).map fun k => (valV kvs k).isSome
    | some (.lst xs) => if flatV x = true ∧ xs.all flatV = true then some (inV x xs) else none
    | some (.tup xs) => if flatV x = true ∧ xs.all flatV = true then some (inV x xs) else none
    | _ => none)
  | _ => none
def rInA : R2 := fun x y H Q => ∃ b, inA H x y = some b ∧ Q (.bl b) H
def rNotInA : R2 := fun x y H Q => ∃ b, inA H x y = some b ∧ Q (.bl (!b)) H
theorem inA_ok (hu : X.A.units + 1 < cLine) : OpR X (compareOp .In) rInA := by
  intro pins s σ H x y v u Q I rx ry h
  obtain ⟨b, e, q⟩ := h
  unfold inA at e
  split at e
  · split at e
    · cases e
      exact op_in_str pins s σ H _ _ v u Q I rx ry ⟨_, _, rfl, rfl, q⟩
    · cases e
  · rename_i a
    split at e
    · rename_i kvs ea
      cases hk : keyOf x with
      | none => rw [hk] at e; cases e
      | some k =>
        rw [hk] at e
        cases e
        obtain rfl : u = Value.ref a := ry
        exact d_in hu I (dget_vw ea hk) rx fun s3 I3 => ⟨.bl _, H, I3, rfl, q⟩
    · rename_i xs ea
      split at e
      · rename_i hf
        cases e
        exact op_in_seq pins s σ H _ _ v u Q I rx ry ⟨a, xs, rfl, .inl (sqL_vw ea), hf.1, hf.2, q⟩
      · cases e
    · rename_i xs ea
      split at e
      · rename_i hf
        cases e
        exact op_in_seq pins s σ H _ _ v u Q I rx ry ⟨a, xs, rfl, .inr (sqT_vw ea), hf.1, hf.2, q⟩
      · cases e
    · cases e
  · cases e
theorem notInA_ok (hu : X.A.units + 1 < cLine) : OpR X (compareOp .NotIn) rNotInA := by
  intro pins s σ H x y v u Q I rx ry h
  obtain ⟨b, e, q⟩ := h
  unfold inA at e
  split at e
  · split at e
    · cases e
      exact op_notin_str pins s σ H _ _ v u Q I rx ry ⟨_, _, rfl, rfl, q⟩
    · cases e
  · rename_i a
    split at e
    · rename_i kvs ea
      cases hk : keyOf x with
      | none => rw [hk] at e; cases e
      | some k =>
        rw [hk] at e
        cases e
        obtain rfl : u = Value.ref a := ry
        exact d_notIn hu I (dget_vw ea hk) rx fun s3 I3 => ⟨.bl _, H, I3, rfl, q⟩
    · rename_i xs ea
      split at e
      · rename_i hf
        cases e
        exact op_notIn_seq pins s σ H _ _ v u Q I rx ry ⟨a, xs, rfl, .inl (sqL_vw ea), hf.1, hf.2, q⟩
      · cases e
    · rename_i xs ea
      split at e
      · rename_i hf
        cases e
        exact op_notIn_seq pins s σ H _ _ v u Q I rx ry ⟨a, xs, rfl, .inr (sqT_vw ea), hf.1, hf.2, q⟩
      · cases e
    · cases e
  · cases e
/-! ### every comparison -/
def rCmp (K : PySem.W.Frag) : CmpOp → R2
  | .Eq => rEqA K
  | .NotEq => rNeA K
  | .Lt => rI0 fun i j => .bl (decide (i < j))
  | .LtE => rI0 fun i j => .bl (decide (i ≤ j))
  | .Gt => rI0 fun i j => .bl (decide (j < i))
  | .GtE => rI0 fun i j => .bl (decide (j ≤ i))
  | .Is => fun x y H Q => y = .non ∧ Q (.bl (decide (x = .non))) H
  | .IsNot => fun x y H Q => y = .non ∧ Q (.bl (!decide (x = .non))) H
  | .In => rInA
  | .NotIn => rNotInA
theorem cmp_any (hu : X.A.units + 64 < cLine) (op : CmpOp) : OpR X (compareOp op) (rCmp X.K op) := by
  cases op
  case Eq => exact eqA_ok hu
  case NotEq => exact neA_ok hu
  case Lt => exact op_lt
  case LtE => exact op_le
  case Gt => exact op_gt
  case GtE => exact op_ge
  case Is => exact op_isN
  case IsNot => exact op_notN
  case In => exact inA_ok (by omega)
  case NotIn => exact notInA_ok (by omega)
/-! ### truth -/
def truA (H : Hp) : V → Option Bool
  | .non => some false
  | .bl b => some b
  | .int i => some (i != 0)
  | .str y => if y.length ≤ sizeLine then some ((y.length : Int) != 0) else none
  | .ref p => (match vw H p with
    | some (.lst xs) => some (!xs.isEmpty)
    | some (.tup xs) => some (!xs.isEmpty)
    | _ => none)
  | _ => none
theorem truA_ok {H : Hp} {x : V} {K : PySem.W.Frag} {k : Bool} (h : truA H x = some k) : TruV K x H k := by
  unfold truA at h
  split at h
  · cases h; rfl
  · cases h; rfl
  · cases h; rfl
  · split at h
    · rename_i hz
      cases h
      exact ⟨hz, rfl⟩
    · cases h
  · split at h
    · rename_i xs e
      cases h
      exact .inl ⟨xs, sqL_vw e, rfl⟩
    · rename_i xs e
      cases h
      exact .inr (.inl ⟨xs, sqT_vw e, rfl⟩)
    · cases h
  · cases h
/-! ### isinstance -/
def tyA (H : Hp) : V → Option String
  | .non => some "NoneType"
  | .bl _ => some "bool"
  | .int _ => some "int"
  | .str _ => some "str"
  | .ref a => (match vw H a with
    | some (.lst _) => some "list"
    | some (.tup _) => some "tuple"
    | some (.dK _) => some "dict"
    | _ => none)
  | _ => none
theorem tyA_ok {K : PySem.W.Frag} {H : Hp} {x : V} {n : String} (h : tyA H x = some n) : TyX K H x (.type n) := by
  unfold tyA at h
  split at h
  · cases h; exact .base .non
  · cases h; exact .base (.bl _)
  · cases h; exact .base (.int _)
  · cases h; exact .base (.str _)
  · rename_i a
    split at h
    · rename_i xs e
      cases h
      rcases rd_vw e with e | ⟨o, e⟩
      · exact .base (.lst e)
      · exact .base (.frz e)
    · rename_i xs e
      cases h
      rcases rd_vw e with e | ⟨o, e⟩
      · exact .base (.tup e)
      · exact .fTuple e
    · rename_i xs e
      cases h
      rcases rd_vw e with e | ⟨o, e⟩
      · exact .base (.dK e)
      · exact .fDict e
    · cases h
  · cases h
def subTy (a b : String) : Option Bool :=
  if b = "int" ∨ b = "str" ∨ b = "bool" ∨ b = "list" ∨ b = "tuple" ∨ b = "dict" then some (decide (a = b) || (decide (a = "bool") && decide (b = "int"))) else none
def builtTys : List String := ["NoneType", "bool", "int", "str", "list", "tuple", "dict"]
theorem tyA_in {H : Hp} {x : V} {n : String} (h : tyA H x = some n) : n ∈ builtTys := by
  unfold tyA at h
  split at h
  · cases h; decide
  · cases h; decide
  · cases h; decide
  · cases h; decide
  · split at h
    · cases h; decide
    · cases h; decide
    · cases h; decide
    · cases h
  · cases h
theorem kitB_tab : ∀ a ∈ builtTys, ∀ b ∈ builtTys, ∀ k, subTy a b = some k → kitB a b = some k := by
  have h : (builtTys.all fun a => builtTys.all fun b => match subTy a b with | some k => decide (kitB a b = some k) | none => true) = true := by decide +kernel
  intro a ha b hb k e
  have h1 := List.all_eq_true.mp (List.all_eq_true.mp h a ha) b hb
  rw [e] at h1
  exact of_decide_eq_true h1
theorem subTy_in {a b : String} {k : Bool} (h : subTy a b = some k) : b ∈ builtTys := by
  unfold subTy at h
  split at h
  · rename_i e
    rcases e with e | e | e | e | e | e <;> subst e <;> decide
  · cases h
/-- isinstance(x, c) for a built-in class, for a tuple of such -/
def isiTup (n : String) : List V → Option Bool
  | [] => some false
  | .ty b :: r => (match subTy n b, isiTup n r with
    | some k, some k' => some (k || k')
    | _, _ => none)
  | _ => none
def isiA (H : Hp) (x c : V) : Option Bool := match tyA H x with
  | some n => (match c with
    | .ty b => subTy n b
    | .ref tp => (match H tp with
      | some (.tup cs) => isiTup n cs
      | _ => none)
    | _ => none)
  | none => none
theorem isiTup_ok {K : PySem.W.Frag} {n : String} (hn : n ∈ builtTys) : ∀ {cs : List V} {b : Bool}, isiTup n cs = some b → ∃ us, Paired ClsV cs us ∧ PySem.W.kitAny K (.type n) us = some b
  | [], b, h => by
    cases h
    exact ⟨[], .nil, kitAny_nil⟩
  | c :: r, b, h => by
    cases c with
    | ty m =>
      have h' : (match subTy n m, isiTup n r with
        | some k, some k' => some (k || k')
        | _, _ => none) = some b := h
      cases e : subTy n m with
      | none => rw [e] at h'; cases h'
      | some k =>
        cases e2 : isiTup n r with
        | none => rw [e, e2] at h'; cases h'
        | some k' =>
          rw [e, e2] at h'
          cases h'
          have hk := kit_ty (K := K) (kitB_tab n hn m (subTy_in e) k e)
          obtain ⟨us, p, q⟩ := isiTup_ok hn e2
          exact ⟨.type m :: us, .cons (.ty m) p, kitAny_cons hk (fun z => by rw [z]; exact q) (fun z => by rw [z]; rfl)⟩
    | _ => cases h
theorem isi_ok : CallR X (.builtin "isinstance") (fun vs H Q => ∃ x c b, vs = [x, c] ∧ isiA H x c = some b ∧ Q (.bl b) H) := by
  intro pins s σ H xs us Q I r h
  obtain ⟨x, c, b, rfl, e, q⟩ := h
  unfold isiA at e
  split at e
  · rename_i n en
    split at e
    · rename_i m
      exact call_isi pins s σ H _ us Q I r ⟨x, _, _, _, b, rfl, .ty m, tyA_ok en, kit_ty (kitB_tab n (tyA_in en) m (subTy_in e) b e), q⟩
    · rename_i tp
      split at e
      · rename_i cs ec
        obtain ⟨ws, p, k⟩ := isiTup_ok (K := X.K) (tyA_in en) e
        exact call_isiT pins s σ H _ us Q I r ⟨x, tp, cs, _, ws, b, rfl, ec, p, tyA_ok en, k, q⟩
      · cases e
    · cases e
  · cases e
/-! ### len -/
def lenA (H : Hp) : V → Option Nat
  | .str y => if y.length ≤ sizeLine then some y.length else none
  | .ref p => (match vw H p with
    | some (.lst xs) => some xs.length
    | some (.tup xs) => some xs.length
    | some (.dK kvs) => some kvs.length
    | _ => none)
  | _ => none
theorem len_ok : CallR X (.builtin "len") (fun vs H Q => ∃ x n, vs = [x] ∧ lenA H x = some n ∧ Q (.int (n : Nat)) H) := by
  intro pins s σ H xs us Q I r h
  obtain ⟨x, n, rfl, e, q⟩ := h
  unfold lenA at e
  split at e
  · split at e
    · rename_i hz
      cases e
      exact call_len pins s σ H _ us Q I r ⟨_, _, rfl, ⟨hz, rfl⟩, q⟩
    · cases e
  · split at e
    · rename_i ys ey
      cases e
      exact call_len pins s σ H _ us Q I r ⟨_, _, rfl, .inl ⟨ys, sqL_vw ey, rfl⟩, q⟩
    · rename_i ys ey
      cases e
      exact call_len pins s σ H _ us Q I r ⟨_, _, rfl, .inr ⟨ys, sqT_vw ey, rfl⟩, q⟩
    · rename_i kvs ey
      cases e
      obtain ⟨u, rfl, ru⟩ := vals1 r
      cases ru
      exact d_len I (rd_vw ey) fun t s' I' => ⟨.int kvs.length, H, I', ⟨t, rfl⟩, q⟩
    · cases e
  · cases e
/-! ### sorted of texts -/
def txts : List V → Option (List Str)
  | [] => some []
  | .str s :: r => (txts r).map (s :: ·)
  | _ => none
theorem txts_map : ∀ {xs : List V} {ss : List Str}, txts xs = some ss → xs = ss.map V.str
  | [], ss, h => by cases h; rfl
  | x :: r, ss, h => by
    cases x with
    | str z =>
      have h' : (txts r).map (z :: ·) = some ss := h
      cases e : txts r with
      | none => rw [e] at h'; cases h'
      | some t =>
        rw [e] at h'
        cases h'
        rw [txts_map e]
        rfl
    | _ => cases h
theorem txts_of (ss : List Str) : txts (ss.map V.str) = some ss := by
  induction ss with
  | nil => rfl
  | cons z r ih =>
    show (txts (r.map V.str)).map (z :: ·) = some (z :: r)
    rw [ih]
    rfl
/-- the texts that sorted(x) orders: a list's items, a dict's names -/
def srtA (H : Hp) : V → Option (List Str)
  | .ref p => (match vw H p with
    | some (.lst xs) => txts xs
    | some (.dK kvs) => txts (kvs.map fun kv => kV kv.1)
    | _ => none)
  | _ => none
theorem keys_txts : ∀ {kvs : List (Key × V)} {ss : List Str}, txts (kvs.map fun kv => kV kv.1) = some ss → kvs.map (·.1) = ss.map Sum.inr
  | [], ss, h => by cases h; rfl
  | (k, v) :: r, ss, h => by
    cases k with
    | inl i => cases h
    | inr z =>
      have h' : (txts (r.map fun kv => kV kv.1)).map (z :: ·) = some ss := h
      cases e : txts (r.map fun kv => kV kv.1) with
      | none => rw [e] at h'; cases h'
      | some t =>
        rw [e] at h'
        cases h'
        show Sum.inr z :: r.map (·.1) = Sum.inr z :: t.map Sum.inr
        rw [keys_txts e]
theorem srt_ok (hc : X.calm = true) : CallR X (.builtin "sorted") (fun vs H Q => ∃ x ss, vs = [x] ∧ srtA H x = some ss ∧ ss.length < 64 ∧
    ∀ (ys : List Str) (p : Addr), ys.Perm ss → sortedS ys = true → H p = none → Q (.ref p) (upd H p (.lst (ys.map V.str)))) := by
  intro pins s σ H xs us Q I r h
  obtain ⟨x, ss, rfl, e, hl, q⟩ := h
  unfold srtA at e
  split at e
  · rename_i p
    split at e
    · rename_i ys ey
      have e2 := txts_map e
      subst e2
      exact cr_sortedS pins s σ H _ us Q I r ⟨p, ss, rfl, sqL_vw ey, hl, q⟩
    · rename_i kvs ey
      exact call_sortedD hc pins s σ H _ us Q I r ⟨p, kvs, ss, rfl, rd_vw ey, keys_txts e, hl, q⟩
    · cases e
  · cases e
/-! ### all, any of truths -/
def blsA : List V → Option (List Bool)
  | [] => some []
  | .bl s :: r => (blsA r).map (s :: ·)
  | _ => none
theorem blsA_map : ∀ {xs : List V} {ss : List Bool}, blsA xs = some ss → xs = ss.map V.bl
  | [], ss, h => by cases h; rfl
  | x :: r, ss, h => by
    cases x with
    | bl z =>
      have h' : (blsA r).map (z :: ·) = some ss := h
      cases e : blsA r with
      | none => rw [e] at h'; cases h'
      | some t =>
        rw [e] at h'
        cases h'
        rw [blsA_map e]
        rfl
    | _ => cases h
theorem blsA_of (ss : List Bool) : blsA (ss.map V.bl) = some ss := by
  induction ss with
  | nil => rfl
  | cons z r ih =>
    show (blsA (r.map V.bl)).map (z :: ·) = some (z :: r)
    rw [ih]
    rfl
def lstA (H : Hp) : V → Option (List V)
  | .ref p => (match vw H p with
    | some (.lst xs) => some xs
    | _ => none)
  | _ => none
theorem lstA_ok {H : Hp} {v : V} {xs : List V} (h : lstA H v = some xs) : ∃ p, v = .ref p ∧ vw H p = some (.lst xs) := by
  unfold lstA at h
  split at h
  · split at h
    · cases h
      exact ⟨_, rfl, by assumption⟩
    · cases h
  · cases h
def rAll : List V → Hp → VK → Prop := fun vs H Q => ∃ x xs bs, vs = [x] ∧ lstA H x = some xs ∧ blsA xs = some bs ∧ Q (.bl (bs.all id)) H
def rAny : List V → Hp → VK → Prop := fun vs H Q => ∃ x xs bs, vs = [x] ∧ lstA H x = some xs ∧ blsA xs = some bs ∧ Q (.bl (bs.any id)) H
theorem all_ok (hc : X.calm = true) : CallR X (.builtin "all") rAll := by
  intro pins s σ H xs us Q I r h
  obtain ⟨x, zs, bs, rfl, e1, e2, q⟩ := h
  obtain ⟨p, rfl, e⟩ := lstA_ok e1
  have e3 := blsA_map e2
  subst e3
  exact cr_all hc pins s σ H _ us Q I r ⟨p, bs, rfl, sqL_vw e, q⟩
theorem any_ok (hc : X.calm = true) : CallR X (.builtin "any") rAny := by
  intro pins s σ H xs us Q I r h
  obtain ⟨x, zs, bs, rfl, e1, e2, q⟩ := h
  obtain ⟨p, rfl, e⟩ := lstA_ok e1
  have e3 := blsA_map e2
  subst e3
  exact cr_any hc pins s σ H _ us Q I r ⟨p, bs, rfl, sqL_vw e, q⟩
/-! ### dict of a list of pairs -/
/-- the pairs that stand at these values -/
def prsA (H : Hp) : List V → Option (List (Key × V))
  | [] => some []
  | .ref p :: r => (match vw H p with
    | some (.tup [k, v]) => (keyOf k).bind fun k' => (prsA H r).map ((k', v) :: ·)
    | _ => none)
  | _ => none
theorem prsA_ok {K : PySem.W.Frag} {H : Hp} : ∀ {xs : List V} {kvs : List (Key × V)}, prsA H xs = some kvs → ∃ ps : List Addr, xs = ps.map V.ref ∧ Paired (fun p kv => SqT K H p [kV kv.1, kv.2]) ps kvs
  | [], kvs, h => by cases h; exact ⟨[], rfl, .nil⟩
  | x :: r, kvs, h => by
    cases x with
    | ref p =>
      unfold prsA at h
      split at h
      · rename_i k v ev
        cases ek : keyOf k with
        | none => rw [ek] at h; cases h
        | some k' =>
          rw [ek] at h
          have h' : (prsA H r).map ((k', v) :: ·) = some kvs := h
          cases e2 : prsA H r with
          | none => rw [e2] at h'; cases h'
          | some t =>
            rw [e2] at h'
            cases h'
            obtain ⟨ps, e3, pp⟩ := prsA_ok (K := K) e2
            refine ⟨p :: ps, by rw [e3]; rfl, .cons ?_ pp⟩
            have ek' := keyOf_kV ek
            rw [← ek']
            exact sqT_vw ev
      · cases h
    | _ => cases h
def rDict : List V → Hp → VK → Prop := fun vs H Q => ∃ x xs kvs, vs = [x] ∧ lstA H x = some xs ∧ prsA H xs = some kvs ∧ ∀ p, H p = none → Q (.ref p) (upd H p (.dK (mergeK [] kvs)))
theorem dict_ok (hc : X.calm = true) : CallR X (.type "dict") rDict := by
  intro pins s σ H xs us Q I r h
  obtain ⟨x, zs, kvs, rfl, e1, e2, q⟩ := h
  obtain ⟨p, rfl, e⟩ := lstA_ok e1
  obtain ⟨ps, e3, pp⟩ := prsA_ok (K := X.K) e2
  subst e3
  exact call_dictP hc pins s σ H _ us Q I r ⟨p, ps, kvs, rfl, sqL_vw e, pp, q⟩
/-! ### int, max, min -/
def rInt : List V → Hp → VK → Prop := fun vs H Q => (∃ i, vs = [.int i] ∧ Q (.int i) H) ∨ ∃ k, vs = [.bl k] ∧ Q (.int (if k then 1 else 0)) H
def rMax : List V → Hp → VK → Prop := fun vs H Q => ∃ i j, vs = [.int i, .int j] ∧ Q (.int (max i j)) H
def rMin : List V → Hp → VK → Prop := fun vs H Q => ∃ i j, vs = [.int i, .int j] ∧ Q (.int (min i j)) H
theorem max_ok (hc : X.calm = true) : CallR X (.builtin "max") rMax := by
  intro pins s σ H xs us Q I r h
  obtain ⟨i, j, rfl, q⟩ := h
  refine call_max2 hc pins s σ H _ us Q I r ⟨i, j, rfl, ?_⟩
  have e : (if j > i then j else i) = max i j := by split <;> omega
  rw [e]
  exact q
theorem min_ok (hc : X.calm = true) : CallR X (.builtin "min") rMin := by
  intro pins s σ H xs us Q I r h
  obtain ⟨i, j, rfl, q⟩ := h
  refine call_min2 hc pins s σ H _ us Q I r ⟨i, j, rfl, ?_⟩
  have e : (if j < i then j else i) = min i j := by split <;> omega
  rw [e]
  exact q
end
end RD
end
section
set_option Elab.async false
set_option maxRecDepth 100000
set_option maxHeartbeats 1000000
namespace RD
open PySem PySem.Spec PyProof.Rows L2
/-! ## stores, iterables, methods -/
section
variable {X : Cx}
def rSet : TSet := fun o i v H Q => match o with
  | .ref a => (match H a with
    | some (.lst xs) => ∃ k j, i = .int k ∧ ixN xs.length k = some j ∧ Q (upd H a (.lst (xs.set j v)))
    | some (.dK kvs) => ∃ k, keyOf i = some k ∧ kvs.length < sizeLine ∧ Q (upd H a (.dK (putK kvs k v)))
    | _ => False)
  | _ => False
theorem set_any (hu : X.A.units + 1 < cLine) : PSet X rSet := by
  intro pins s σ H o i v ov iv u Q I ro ri rv h
  unfold rSet at h
  split at h
  · rename_i a
    split at h
    · rename_i xs ea
      obtain ⟨k, j, rfl, e, q⟩ := h
      exact set_list pins s σ H _ _ v ov iv u Q I ro ri rv ⟨a, xs, k, j, rfl, rfl, ea, e, q⟩
    · rename_i kvs ea
      obtain ⟨k, ek, hl, q⟩ := h
      refine set_dict hu pins s σ H _ _ v ov iv u Q I ro ri rv ⟨a, _, rfl, ?_, q⟩
      rw [keyOf_kV ek]
      exact DPut.k ea hl
    · exact h.elim
  · exact h.elim
/-! ### what is walked -/
theorem pi_or {tg e : Expr} {wi wi' : TI} (h : PI X tg e wi) (h' : PI X tg e wi') : PI X tg e (fun σ H R => wi σ H R ∨ wi' σ H R) := ⟨fun pins s σ H R I q => by
  rcases q with q | q
  · exact h.run pins s σ H R I q
  · exact h'.run pins s σ H R I q⟩
theorem pi_none {tg e : Expr} : PI X tg e (fun _ _ _ => False) := ⟨fun _ _ _ _ _ _ q => q.elim⟩
theorem pe_orr {e : Expr} {t t' : TE} (h : PE X e t) (h' : PE X e t') : PE X e (fun σ H Q => t σ H Q ∨ t' σ H Q) := ⟨fun pins s σ H R I q => by
  rcases q with q | q
  · exact h.run pins s σ H R I q
  · exact h'.run pins s σ H R I q⟩
theorem ps_orr {e : Stmt} {t t' : TS} (h : PS X e t) (h' : PS X e t') : PS X e (fun D σ H => t D σ H ∨ t' D σ H) := ⟨fun pins s σ H R I q => by
  rcases q with q | q
  · exact h.run pins s σ H R I q
  · exact h'.run pins s σ H R I q⟩
theorem pe_fls {e : Expr} : PE X e (fun _ _ _ => False) := ⟨fun _ _ _ _ _ _ q => q.elim⟩
theorem pt_fls {e : Expr} : PT X e (fun _ _ _ => False) := ⟨fun _ _ _ _ _ _ q => q.elim⟩
theorem pa_fls {e : List Expr} : PA X e (fun _ _ _ => False) := ⟨fun _ _ _ _ _ _ _ q => q.elim⟩
theorem ps_fls {e : Stmt} : PS X e (fun _ _ _ => False) := ⟨fun _ _ _ _ _ _ q => q.elim⟩
theorem pss_fls {e : List Stmt} : PSs X e (fun _ _ _ => False) := ⟨fun _ _ _ _ _ _ q => q.elim⟩
theorem pg_fls {e : Expr} : PG X e (fun _ _ _ _ => False) := ⟨fun _ _ _ _ _ _ _ _ _ q => q.elim⟩
theorem po_fls {e : Option Expr} : PO X e (fun _ _ _ => False) := ⟨fun _ _ _ _ _ _ q => q.elim⟩
def iAny (K : PySem.W.Frag) (te : TE) : TI := fun σ H R => iList K te σ H R ∨ iTup K te σ H R ∨ iStr te σ H R ∨ iKeys te σ H R
theorem pi_any {tg e : Expr} {te : TE} (h : PE X e te) : PI X tg e (iAny X.K te) := pi_or (pi_list h) (pi_or (pi_tup h) (pi_or (pi_str h) (pi_keys h)))
/-! ### methods of built-in types -/
def mtT (H : Hp) : V → Option String
  | .str _ => some "str"
  | .ref p => (match H p with
    | some (.lst _) => some "list"
    | some (.dK _) => some "dict"
    | _ => none)
  | _ => none
theorem mtT_ok {K : PySem.W.Frag} {H : Hp} {x : V} {T : String} (h : mtT H x = some T) : tyV K T x H := by
  unfold mtT at h
  split at h
  · cases h; rfl
  · split at h
    · rename_i e
      cases h
      exact .inl ⟨rfl, _, SqL.of e⟩
    · rename_i e
      cases h
      exact .inr (.inr (.inl ⟨rfl, .inl ⟨_, e⟩⟩))
    · cases h
  · cases h
abbrev MtRd := V → List V → Hp → VK → Prop
/-- what a method of a type is known to do -/
def BM (X : Cx) (name : Str) (T : String) (r : MtRd) : Prop := ∃ id, PlainAttrs T ∧ Slot T name id ∧ typeOf (.builtin id) = pure (.type "method_descriptor") ∧ MtR X id r
def rAppendA : MtRd := fun x vs H Q => match x with
  | .ref l => (match H l with
    | some (.lst xs) => ∃ y, vs = [y] ∧ xs.length < sizeLine ∧ Q .non (upd H l (.lst (xs ++ [y])))
    | _ => False)
  | _ => False
def rExtendA : MtRd := fun x vs H Q => match x with
  | .ref l => (match H l with
    | some (.lst xs) => ∃ b zs, vs = [.ref b] ∧ H b = some (.lst zs) ∧ xs.length + zs.length ≤ sizeLine ∧ Q .non (upd H l (.lst (xs ++ zs)))
    | _ => False)
  | _ => False
def rInsertA : MtRd := fun x vs H Q => match x with
  | .ref l => (match H l with
    | some (.lst xs) => ∃ i y, vs = [.int i, y] ∧ xs.length < sizeLine ∧ 0 ≤ i ∧ i < 2 ^ 63 ∧ Q .non (upd H l (.lst (xs.take i.toNat ++ [y] ++ xs.drop i.toNat)))
    | _ => False)
  | _ => False
def rJoinA : MtRd := fun x vs H Q => ∃ a v xs ys, x = .str a ∧ vs = [v] ∧ lstA H v = some xs ∧ txts xs = some ys ∧ (ys.map (·.length)).sum + ys.length * a.length ≤ 16777216 ∧ Q (.str (Txt.join a ys)) H
theorem bm_append : BM X "append" "list" rAppendA := ⟨_, PySem.F.plainAttrs_list, PySem.F.slot_list_append, PySem.F.type_list_append, fun pins s σ H x xs v us Q I rx rs h => by
  unfold rAppendA at h
  split at h
  · rename_i l
    split at h
    · rename_i ys e
      obtain ⟨y, rfl, hz, q⟩ := h
      exact mt_append pins s σ H _ _ v us Q I rx rs ⟨l, ys, y, rfl, rfl, e, hz, q⟩
    · exact h.elim
  · exact h.elim⟩
theorem bm_extend : BM X "extend" "list" rExtendA := ⟨_, PySem.F.plainAttrs_list, PySem.F.slot_list_extend, PySem.F.type_list_extend, fun pins s σ H x xs v us Q I rx rs h => by
  unfold rExtendA at h
  split at h
  · rename_i l
    split at h
    · rename_i ys e
      obtain ⟨b, zs, rfl, eb, hz, q⟩ := h
      exact mt_extend pins s σ H _ _ v us Q I rx rs ⟨l, b, ys, zs, rfl, rfl, e, eb, hz, q⟩
    · exact h.elim
  · exact h.elim⟩
theorem bm_insert : BM X "insert" "list" rInsertA := ⟨_, PySem.F.plainAttrs_list, PySem.F.slot_list_insert, PySem.F.type_list_insert, fun pins s σ H x xs v us Q I rx rs h => by
  unfold rInsertA at h
  split at h
  · rename_i l
    split at h
    · rename_i ys e
      obtain ⟨i, y, rfl, hz, h0, h1, q⟩ := h
      exact mt_insert pins s σ H _ _ v us Q I rx rs ⟨l, ys, i, y, rfl, rfl, e, hz, h0, h1, q⟩
    · exact h.elim
  · exact h.elim⟩
theorem bm_join : BM X "join" "str" rJoinA := ⟨_, PySem.F.plainAttrs_str, PySem.F.slot_str_join, PySem.F.type_str_join, fun pins s σ H x xs v us Q I rx rs h => by
  obtain ⟨a, w, zs, ys, rfl, rfl, e1, e2, hz, q⟩ := h
  obtain ⟨p, rfl, e⟩ := lstA_ok e1
  have e3 := txts_map e2
  subst e3
  exact mt_join pins s σ H _ _ v us Q I rx rs ⟨a, p, ys, rfl, rfl, .inl (sqL_vw e), hz, q⟩⟩
def mtR (name : Str) (T : String) : Option MtRd :=
  if T = "list" then
    if name = "append" then some rAppendA else if name = "extend" then some rExtendA else if name = "insert" then some rInsertA else none
  else if T = "str" then
    if name = "join" then some rJoinA else none
  else none
theorem mtR_ok {name : Str} {T : String} {r : MtRd} (h : mtR name T = some r) : BM X name T r := by
  unfold mtR at h
  split at h
  · rename_i e
    subst e
    split at h
    · rename_i e; subst e; cases h; exact bm_append
    · split at h
      · rename_i e; subst e; cases h; exact bm_extend
      · split at h
        · rename_i e; subst e; cases h; exact bm_insert
        · cases h
  · split at h
    · rename_i e
      subst e
      split at h
      · rename_i e; subst e; cases h; exact bm_join
      · cases h
    · cases h
def tMt (name : Str) (to : TE) (t : TA) : TE := fun σ H Q => to σ H fun x H1 => ∃ T r, mtT H1 x = some T ∧ mtR name T = some r ∧ t σ H1 fun xs H2 => r x xs H2 Q
variable {o e : Expr} {es : List Expr} {to : TE} {t : TA} {name : Str} {apos cpos : Pos}
theorem pe_mt (ho : PE X o to) (ha : PA X (e :: es) t)
    (hbase : attributeBase o name X.env (eval o X.env) = eval o X.env)
    (hfew : ((backTo cpos (starEach (e :: es) X.env)).all (fun x => !x.1) && (backToKw cpos (keywordEach [] X.env)).all (fun x => x.1.isSome)
      && decide ((e :: es).length + ([] : List Keyword).length + (if ([] : List Keyword).isEmpty then 0 else 1) < 30)) = true)
    (hline : (apos.endLine == cpos.line) = true) (hs : starEach (e :: es) X.env = (false, eval e X.env) :: starEach es X.env) (hplain : (backTo cpos (starEach es X.env)).any (·.1) = false) :
    PE X (.Call (.Attribute o name apos) (e :: es) [] cpos) (tMt name to t) := by
  refine ⟨fun pins s σ H Q I h => ?_⟩
  refine wpAny_Call_method_late hbase hfew hline rfl (thn (ho.run pins s σ H _ I h) fun v s1 hx => ?_)
  obtain ⟨x, H1, I1, r1, T, r, eT, eR, q1⟩ := hx
  obtain ⟨h1, h2⟩ := tyV_is I1 r1 (mtT_ok eT)
  obtain ⟨id, pa, slot, hty, hm⟩ := mtR_ok (X := X) eR
  refine ⟨T, id, pa, slot, hty, h1, h2, ?_⟩
  have hA := ha.run cpos pins s1 σ H1 _ I1 q1
  rw [hs] at hA ⊢
  have hp : ((false, eval e X.env) :: (backTo cpos (starEach es X.env))).any (·.1) = false := by
    rw [List.any_cons, hplain]
    rfl
  refine Calls.callWith_builtin hp (Calls.evalArgs_plain (thn hA fun us s2 hv => ?_))
  obtain ⟨vs, H2, I2, r2, q2⟩ := hv
  exact hm pins s2 σ H2 x vs v us Q I2 r1 r2 q2
end
end RD
end
section
set_option Elab.async false
set_option maxRecDepth 100000
set_option maxHeartbeats 1000000
namespace RD
open PySem PySem.Spec PyProof.Rows L2
/-! ## the reading of a text, as a function -/
/-- what is known of the names of the program, at a level -/
structure GT where
  K : PySem.W.Frag
  /-- a def's promise -/
  fn : Str → Option Sp
  /-- a name's value (a constant, a class) -/
  gv : Str → Option V
  /-- the module does not bind it -/
  free : Str → Bool
  /-- an exception class without its own __init__: its address -/
  exc : Str → Option Addr
  /-- a class that an except clause may name: its value -/
  ecl : Str → Option Value
  /-- what a def promises where it is called from an except suite -/
  fnH : Addr → Value → Option Addr → Str → Option Sp
/-- what is known of a block -/
structure SC where
  N : List Str
  sc : Scope
  own : Str → Bool
  top : Bool
  /-- in an except suite: the error's place, its class, its own dict's place -/
  hot : Option (Addr × Value × Option Addr) := none
def idxN : List Str → Str → Nat → Option Nat
  | [], _, _ => none
  | y :: r, x, i => if y = x then some i else idxN r x (i + 1)
def tFls : TE := fun _ _ _ => False
def visB (sc : Scope) (x : Str) : Bool := match sc.names.lookup x with
  | some .local => true
  | some .cell => true
  | some .free => true
  | _ => false
def gloB (sc : Scope) (x : Str) : Bool := match sc.names.lookup x with
  | some .globalImplicit => true
  | _ => false
def oddName (x : Str) : Bool := decide (x = "__debug__") || (decide (x = "__classdict__") || decide (x = "__name__"))
def tyName (x : Str) : Option String :=
  if x = "int" then some "int" else if x = "str" then some "str" else if x = "bool" then some "bool" else if x = "list" then some "list" else if x = "tuple" then some "tuple" else if x = "dict" then some "dict" else if x = "ValueError" then some "ValueError" else none
set_option linter.unusedVariables false
def rdName (G : GT) (S : SC) (x : Str) : TE :=
  if oddName x = true then tFls else
  match idxN S.N x 0 with
  | some i => if visB S.sc x = true then tVar i else tFls
  | none => if gloB S.sc x = true then (match G.gv x with
      | some v => tC v
      | none => if G.free x = true then (match tyName x with
        | some T => tC (.ty T)
        | none => tFls) else tFls) else tFls
def noStar : Expr → Bool
  | .Starred .. => false
  | _ => true
def noSuper : Expr → Bool
  | .Call (.Name _ _) [] [] _ => false
  | _ => true
def plainIx : Expr → Bool
  | .Slice .. => false
  | _ => true
def noSet : Expr → Bool
  | .Set .. => false
  | _ => true
def noComp : Expr → Bool
  | .ListComp .. => false
  | .SetComp .. => false
  | .DictComp .. => false
  | _ => true
def rdA (f : Expr → TE) : List Expr → TA
  | [] => tNil
  | e :: r => if noStar e = true then tCons (f e) (rdA f r) else fun _ _ _ => False
def boolV (op : BoolOp) (f : Expr → TE) : List Expr → TE
  | [] => tFls
  | [e] => f e
  | e :: r => (match op with
    | .And => tAndV (f e) (boolV op f r)
    | .Or => tOrV (f e) (boolV op f r))
def boolT (op : BoolOp) (f : Expr → TT) : List Expr → TT
  | [] => fun _ _ _ => False
  | [e] => f e
  | e :: r => (match op with
    | .And => tAnd (f e) (boolT op f r)
    | .Or => tOr (f e) (boolT op f r))
def rdO (f : Expr → TE) : Option Expr → TO
  | none => tNoPart
  | some e => tPart (f e)
def tTru (te : TE) : TT := fun σ H Q => te σ H fun x H1 => ∃ k, truA H1 x = some k ∧ Q k H1
/-- the entries of a display -/
def rdD (f : Expr → TE) : List (Option Expr) → List Expr → Option (List (TE × TE))
  | [], [] => some []
  | some k :: ks, v :: vs => (rdD f ks vs).map ((f k, f v) :: ·)
  | _, _ => none
/-- isinstance of the error that is handled -/
def clsOf : V → Option Value
  | .ty n => some (.type n)
  | .ref C => some (.ref C)
  | _ => none
def rIsH (K : PySem.W.Frag) (hot : Option (Addr × Value × Option Addr)) : List V → Hp → VK → Prop := fun vs H Q => match hot with
  | none => ∃ x c b, vs = [x, c] ∧ isiA H x c = some b ∧ Q (.bl b) H
  | some (a, cls, d) => (∃ x c b, vs = [x, c] ∧ isiA H x c = some b ∧ Q (.bl b) H) ∨
    (∃ c cv D b, vs = [.ref a, c] ∧ d = none ∧ cls = .ref D ∧ ExcC K D ∧ clsOf c = some cv ∧ PySem.W.kitOne K cls cv = some b ∧ Q (.bl b) H)
def rBlt (G : GT) (hot : Option (Addr × Value × Option Addr)) (x : Str) : Option (List V → Hp → VK → Prop) :=
  if x = "len" then some (fun vs H Q => ∃ x n, vs = [x] ∧ lenA H x = some n ∧ Q (.int (n : Nat)) H)
  else if x = "isinstance" then some (rIsH G.K hot)
  else if hot.isSome = true then none
  else if x = "sorted" then some (fun vs H Q => ∃ x ss, vs = [x] ∧ srtA H x = some ss ∧ ss.length < 64 ∧
    ∀ (ys : List Str) (p : Addr), ys.Perm ss → sortedS ys = true → H p = none → Q (.ref p) (upd H p (.lst (ys.map V.str))))
  else if x = "all" then some rAll
  else if x = "any" then some rAny
  else if x = "max" then some rMax
  else if x = "min" then some rMin
  else none
def rTyp (hot : Option (Addr × Value × Option Addr)) (x : Str) : Option (List V → Hp → VK → Prop) :=
  if x = "int" then some rInt
  else if hot.isSome = true then none
  else if x = "dict" then some rDict
  else none
def tTB (r : List V → Hp → VK → Prop) (t : TA) : TE := fun σ H Q => t σ H fun vs H1 => r vs H1 Q
/-- a def's promise where it is called -/
def fnAt (G : GT) (S : SC) (x : Str) : Option Sp := match S.hot with
  | none => G.fn x
  | some (a, cls, d) => G.fnH a cls d x
def rdCall (G : GT) (S : SC) (W : WX) (x : Str) (t : TA) : TE :=
  if oddName x = true then tFls else
  if gloB S.sc x = true then (match fnAt G S x with
    | some sp => tCallS sp (WE W) t
    | none => if G.free x = true then (match rBlt G S.hot x with
      | some r => tTB r t
      | none => (match rTyp S.hot x with
        | some r => tTB r t
        | none => tFls)) else tFls)
  else tFls
/-- a comprehension's own names, with their places -/
def ownNs (N : List Str) (scope : Scope) : List (Str × Nat) := scope.names.filterMap fun y => match y.2 with
  | .local => (idxN N y.1 0).map fun i => (y.1, i)
  | .cell => (idxN N y.1 0).map fun i => (y.1, i)
  | _ => none
def blkSC (S : SC) (scope : Scope) : SC := ⟨S.N, relS scope S.sc, fun x => match scope.names.lookup x with
  | some .local => true
  | some .cell => true
  | _ => false, false, none⟩
def tgFls : TG := fun _ _ _ _ => False
def rdTgN (S : SC) (x : Str) : TG := match idxN S.N x 0 with
  | some i => if S.own x = true then gName i else tgFls
  | none => tgFls
def gList (S : SC) : List Expr → TGs
  | [] => gNil
  | .Name x _ :: r => gCons (rdTgN S x) (gList S r)
  | _ => fun _ _ _ _ => False
/-- a loop's, a comprehension's target: a name, some names -/
def rdTg (K : PySem.W.Frag) (S : SC) : Expr → TG
  | .Name x _ => rdTgN S x
  | .Tuple es _ _ => if S.hot.isSome = true then tgFls else gTup K es.length (gList S es)
  | _ => tgFls
def tiFls : TI := fun _ _ _ => False
def rdIt (G : GT) (S : SC) (f : Expr → TE) (e : Expr) : TI := match e with
  | .Call (.Name x _) args [] _ => if x = "range" then (if oddName x = true then tiFls else if gloB S.sc x = true then (if G.free x = true then (match args with
      | [a] => if noStar a = true then iRng1 (tCons (f a) tNil) else tiFls
      | [a, b] => if noStar a = true ∧ noStar b = true then iRng2 (tCons (f a) (tCons (f b) tNil)) else tiFls
      | _ => tiFls) else tiFls) else tiFls)
    else iAny G.K (f e)
  | .Set .. => tiFls
  | _ => iAny G.K (f e)
structure Rec where
  e : SC → WX → Expr → TE
  t : SC → WX → Expr → TT
  s : SC → WX → Stmt → TS
def tIfs (f : Expr → TT) : List Expr → TT
  | [] => tYes
  | [c] => f c
  | _ => fun _ _ _ => False
abbrev W0 : WX := fun _ _ _ _ => False
def rdLc (G : GT) (R : Rec) (S : SC) (W : WX) (elt tg it : Expr) (ifs : List Expr) (scope : Scope) : TE :=
  if S.hot.isSome = true then tFls else
  if blkC S.N S.sc scope (ownNs S.N scope) = true then
    (let w := rdIt G S (R.e S W) it
     let B := blkSC S scope
     let body := tLc w (rdTg G.K B tg) (tIfs (R.t B W0) ifs) (R.e B W0 elt) ((ownNs S.N scope).map (·.2))
     fun σ H Q => body σ H Q ∨ tLockE body σ H Q)
  else tFls
def stepE (G : GT) (R : Rec) (S : SC) (W : WX) : Expr → TE
  | .Constant c _ _ => (match c with
    | .int i => tC (.int i)
    | .bool b => tC (.bl b)
    | .none => tC .non
    | .str x => tC (.str x)
    | _ => tFls)
  | .Name x _ => rdName G S x
  | .BinOp a op b _ => tOp (rBin op) (R.e S W a) (R.e S W b)
  | .UnaryOp .USub a _ => tUn rNeg (R.e S W a)
  | .UnaryOp .Not a _ => tNotV (R.e S W a)
  | .BoolOp op vs _ => boolV op (R.e S W) vs
  | .IfExp c a b _ => tIf (R.t S W c) (R.e S W a) (R.e S W b)
  | .Compare a [op] [b] _ => if noSet b = true then tOp (rCmp G.K op) (R.e S W a) (R.e S W b) else tFls
  | .Call (.Name x _) args [] _ => (match args with
    | [] => tFls
    | _ => if args.all noStar = true then rdCall G S W x (rdA (R.e S W) args) else tFls)
  | .Call (.Attribute o m apos) args [] cpos => (match args with
    | [] => tFls
    | _ => if noSuper o = true ∧ (apos.endLine == cpos.line) = true ∧ args.length < 20 ∧ args.all noStar = true then tMt m (R.e S W o) (rdA (R.e S W) args) else tFls)
  | .Subscript o (.Slice lo hi none _) _ => tSl rSl (R.e S W o) (rdO (R.e S W) lo) (rdO (R.e S W) hi)
  | .Subscript o i _ => if plainIx i = true then tOp rIx (R.e S W o) (R.e S W i) else tFls
  | .List es _ => tLst (rdA (R.e S W) es)
  | .Tuple es _ _ => tTup (rdA (R.e S W) es)
  | .Dict ks vs _ => (match ks with
    | [] => (match vs with
      | [] => tDNewK
      | _ => tFls)
    | _ => if ks.length ≤ 15 then (match rdD (R.e S W) ks vs with
      | some trs => tDisp trs
      | none => tFls) else tFls)
  | .ListComp elt [⟨tg, it, ifs, 0⟩] scope _ => rdLc G R S W elt tg it ifs scope
  | _ => tFls
def stepT (G : GT) (R : Rec) (S : SC) (W : WX) : Expr → TT
  | .UnaryOp .Not a _ => tNot (R.t S W a)
  | .BoolOp op vs _ => boolT op (R.t S W) vs
  | .Compare a [op] [b] _ => if noSet b = true then tTest (tOp (rCmp G.K op) (R.e S W a) (R.e S W b)) else fun _ _ _ => False
  | .Compare .. => fun _ _ _ => False
  | .IfExp .. => fun _ _ _ => False
  | e => tTru (R.e S W e)
def rdB (f : Stmt → TS) : List Stmt → TS
  | [] => tNext
  | [st] => f st
  | st :: r => tSeq (f st) (rdB f r)
def tsFls : TS := fun _ _ _ => False
def tPar2 (i j : Nat) (ta : TA) : TS := tPar i j ta
def setN (S : SC) (x : Str) (te : TE) : TS := match idxN S.N x 0 with
  | some i => if S.own x = true then tAsg te (gName i) else tsFls
  | none => tsFls
def locB (sc : Scope) (x : Str) : Bool := match sc.names.lookup x with
  | some .local => true
  | _ => false
/-- raise C('..') -/
def rdRaise (G : GT) (S : SC) (W : WX) : Expr → TS
  | .Call (.Name x _) args [] _ => if S.hot.isSome = true then tsFls else if oddName x = true then tsFls else if gloB S.sc x = true then (match G.exc x, args with
    | some C, [.Constant (.str _) _ _] => fun _ σ H => W (.ref C) none σ H
    | _, _ => tsFls) else tsFls
  | _ => tsFls
/-- try with one clause 'except x as n' -/
def rdTry (G : GT) (R : Rec) (S : SC) (W : WX) (body : List Stmt) (x n : Str) (suite : List Stmt) : TS :=
  if S.top = true ∧ S.hot = none ∧ oddName x = false ∧ gloB S.sc x = true ∧ locB S.sc n = true then (match G.ecl x, idxN S.N n 0 with
    | some c, some i => fun D σ H => rdB (R.s S (wAs G.K c i (fun a cls d => rdB (R.s { S with top := false, hot := some (a, cls, d) } W0) suite) W D)) body D σ H
    | _, _ => tsFls)
  else tsFls
def stepS (G : GT) (R : Rec) (S : SC) (W : WX) : Stmt → TS
  | .Pass _ => tNext
  | .Break _ => tBreak
  | .Continue _ => tCont
  | .Expr e _ => if noComp e = true then tDrop (R.e S W e) else tsFls
  | .Return none _ => tRetN
  | .Return (some e) _ => tRet (R.e S W e)
  | .If c a b _ => tIfS (R.t S W c) (rdB (R.s S W) a) (rdB (R.s S W) b)
  | .For tg it body [] _ => if S.hot.isSome = true then tsFls else (let b := tFor (rdIt G S (R.e S W) it) (rdTg G.K S tg) (rdB (R.s S W) body)
      fun D σ H => b D σ H ∨ tLock b D σ H)
  | .While c body [] _ => if S.hot.isSome = true then tsFls else tWhile (R.t S W c) (rdB (R.s S W) body)
  | .Raise (some e) none _ => rdRaise G S W e
  | .Try body [.ExceptHandler (some (.Name x _)) (some n) (b₀ :: suite) _] [] [] _ => rdTry G R S W body x n (b₀ :: suite)
  | .Assign [.Name x _] e _ => (match e with
    | .ListComp elt [⟨tg, it, ifs, 0⟩] scope _ => setN S x (rdLc G R S W elt tg it ifs scope)
    | _ => if noComp e = true then setN S x (R.e S W e) else tsFls)
  | .Assign [.Subscript o i _] e _ => if noComp e = true ∧ plainIx i = true then tAsg (R.e S W e) (gSub (R.e S W o) (R.e S W i) rSet) else tsFls
  | .Assign [.Tuple ts _ _] e _ => if S.hot.isSome = true then tsFls else (match e with
    | .Tuple .. => tsFls
    | _ => if noComp e = true then tAsg (R.e S W e) (gTup G.K ts.length (gList S ts)) else tsFls)
  | _ => tsFls
end RD
end
section
set_option Elab.async false
set_option maxRecDepth 100000
set_option maxHeartbeats 1000000
namespace RD
open PySem PySem.Spec PyProof.Rows L2
/-! ## the reading is right -/
/-- what a def promises where it is called from the suite that handles the error at a -/
structure FnS (P : Program) (w : World) (K : PySem.W.Frag) (mg : Str → Option Value) (base : Heap) (k : Nat) (f : Addr) (fd : FuncData) (ps : List Str) (a : Addr) (cls : Value) (d : Option Addr) (sp : Sp) : Prop where
  len : ∀ vs H Q E, sp vs H Q E → vs.length = ps.length
  run : ∀ (A : Around) (outer : List Env) (s : Shared) (H : Hp) (args : Args) (us : List Value) (vs : List V) (Q : VK) (oe : Obj), A.depth + 3 * k + 5 < recursionLimit → A.units + 16 * k + 200 < cLine →
    L2H.PinOk outer H s (a, oe) → Zc cls d oe → (∃ fs, oe.data = .fields fs) → Env0 P w K mg base A outer s H → BindsTo s fd args (ps.zip us) → Vals vs us → sp vs H Q E0 →
    codeAny (model P w) A (.call (.ref f) args) (CR CX0 outer P w H s Q E0) s
structure GOk (P : Program) (w : World) (mg : Str → Option Value) (base : Heap) (k : Nat) (G : GT) : Prop where
  fn : ∀ x sp, G.fn x = some sp → ∃ f fd ps, mg x = some (.ref f) ∧ PySem.W.keepIn G.K (.ref f) = true ∧ Binds G.K fd ps [] ∧ FnOk P w G.K mg base (L2.CX P w) k f fd ps sp
  gv : ∀ x v, G.gv x = some v → ∃ u, mg x = some u ∧ RelV v u
  free : ∀ x, G.free x = true → mg x = none
  exc : ∀ x C, G.exc x = some C → mg x = some (.ref C) ∧ PySem.W.excIn G.K C [.type "ValueError", .type "Exception", .type "BaseException", .type "object"] "ValueError.__new__" = true ∧ PySem.W.keepIn G.K (.ref C) = true ∧
    PySem.W.subIn G.K (.ref C) (.type "BaseException") = some true ∧ PySem.W.typeIn G.K (.ref C) = some (.type "type")
  ecl : ∀ x c, G.ecl x = some c → mg x = some c
  fnH : ∀ a cls d x sp, G.fnH a cls d x = some sp → ∃ f fd ps, mg x = some (.ref f) ∧ PySem.W.keepIn G.K (.ref f) = true ∧ Binds G.K fd ps [] ∧ FnS P w G.K mg base k f fd ps a cls d sp ∧ ∀ vs H Q E, sp vs H Q E → sp vs H Q E0
structure XOk (P : Program) (w : World) (mg : Str → Option Value) (base : Heap) (k : Nat) (G : GT) (S : SC) (X : Cx) : Prop where
  eP : X.prog = P
  ew : X.w = w
  eK : X.K = G.K
  em : X.mg = mg
  eb : X.base = base
  N : X.N = S.N
  nd : X.N.Nodup
  sc : X.env.scope = S.sc
  kind : X.env.scope.kind = .function
  own : ∀ x, S.own x = true → Loc X.env.scope x ∧ (X.fn x = true ∨ X.env.scope.names.lookup x = some .local)
  calm : S.hot = none → X.calm = true ∧ Room k X.A
  hot : ∀ a cls d, S.hot = some (a, cls, d) → ∃ oe, (a, oe) ∈ X.pn ∧ Zc cls d oe ∧ ∃ vs, oe.data = .fields vs
  dp : X.A.depth + 3 * k + 5 < recursionLimit
  un : X.A.units + 16 * k + 200 < cLine
  po : PassesOwn (model X.prog X.w) X.A X.env X.xe
  top : S.top = true → X.stack = X.env :: X.outer ∧ X.env.frame = some X.env.locals
section
variable {P : Program} {w : World} {mg : Str → Option Value} {base : Heap} {k : Nat} {G : GT} {S : SC} {X : Cx} {W : WX}
theorem idxN_ok : ∀ {N : List Str} {x : Str} {i j : Nat}, idxN N x i = some j → i ≤ j ∧ N[j - i]? = some x
  | [], _, _, _, h => by cases h
  | y :: r, x, i, j, h => by
    unfold idxN at h
    split at h
    · rename_i e
      cases h
      refine ⟨Nat.le_refl _, ?_⟩
      rw [Nat.sub_self, e]
      rfl
    · obtain ⟨h1, h2⟩ := idxN_ok h
      refine ⟨by omega, ?_⟩
      have e : j - i = (j - (i + 1)) + 1 := by omega
      rw [e]
      exact h2
theorem idx_at (hX : XOk P w mg base k G S X) {x : Str} {i : Nat} (h : idxN S.N x 0 = some i) : X.N[i]? = some x := by
  have q := (idxN_ok h).2
  rw [Nat.sub_zero, ← hX.N] at q
  exact q
theorem vis_of (hX : XOk P w mg base k G S X) {x : Str} (h : visB S.sc x = true) : Vis X.env.scope x := by
  rw [hX.sc]
  unfold visB at h
  split at h
  · exact .inl (by assumption)
  · exact .inr (.inl (by assumption))
  · exact .inr (.inr (by assumption))
  · cases h
theorem gl_of (hX : XOk P w mg base k G S X) {x : Str} (h : gloB S.sc x = true) : Gl X x := by
  unfold gloB at h
  show X.env.scope.names.lookup x = some .globalImplicit
  rw [hX.sc]
  split at h
  · assumption
  · cases h
theorem odd_ne {x : Str} (h : ¬ oddName x = true) : (x == ("__debug__" : Str)) = false ∧ (x == ("__classdict__" : Str)) = false ∧ x ≠ "__name__" := by
  have h' := Bool.eq_false_iff.mpr h
  unfold oddName at h'
  simp only [Bool.or_eq_false_iff, decide_eq_false_iff_not] at h'
  obtain ⟨a, b, c⟩ := h'
  exact ⟨beq_eq_false_iff_ne.mpr a, beq_eq_false_iff_ne.mpr b, c⟩
theorem calm_of (hX : XOk P w mg base k G S X) (h : ¬ S.hot.isSome = true) : X.calm = true ∧ Room k X.A := hX.calm (by
  cases e : S.hot with
  | none => rfl
  | some q => rw [e] at h; exact absurd rfl h)
theorem boot_ty {x : Str} {T : String} (h : tyName x = some T) : bootBuiltins x = some (.type T) := by
  unfold tyName at h
  split at h
  · rename_i e; subst e; cases h; decide +kernel
  split at h
  · rename_i e; subst e; cases h; decide +kernel
  split at h
  · rename_i e; subst e; cases h; decide +kernel
  split at h
  · rename_i e; subst e; cases h; decide +kernel
  split at h
  · rename_i e; subst e; cases h; decide +kernel
  split at h
  · rename_i e; subst e; cases h; decide +kernel
  split at h
  · rename_i e; subst e; cases h; decide +kernel
  · cases h
theorem pe_nm (hX : XOk P w mg base k G S X) (hG : GOk P w mg base k G) {x : Str} {pos : Pos} : PE X (.Name x pos) (rdName G S x) := by
  unfold rdName
  split
  · exact pe_fls
  rename_i ho
  obtain ⟨o1, o2, o3⟩ := odd_ne ho
  split
  · rename_i i hi
    split
    · rename_i hv
      exact pe_var (idx_at hX hi) (vis_of hX hv) o1 o2
    · exact pe_fls
  · split
    · rename_i hg
      have g := gl_of hX hg
      split
      · rename_i v hv
        obtain ⟨u, hu, r⟩ := hG.gv x v hv
        exact pe_glob g (by rw [hX.em]; exact hu) r o1
      · split
        · rename_i hf
          split
          · rename_i T hT
            exact pe_bltn g (by rw [hX.em]; exact hG.free x hf) (boot_ty hT) rfl o3 o1
          · exact pe_fls
        · exact pe_fls
    · exact pe_fls
theorem star_cons {e : Expr} {es : List Expr} {env : Env} (h : noStar e = true) : starEach (e :: es) env = (false, eval e env) :: starEach es env := by
  cases e <;> first | rfl | cases h
theorem pa_rd {f : Expr → TE} : ∀ {es : List Expr}, (∀ e ∈ es, PE X e (f e)) → PA X es (rdA f es)
  | [], _ => pa_nil
  | e :: r, h => by
    unfold rdA
    split
    · rename_i hs
      exact pa_cons (h e List.mem_cons_self) (pa_rd fun e' he => h e' (List.mem_cons_of_mem _ he)) (star_cons hs)
    · exact pa_fls
theorem stars_any : ∀ {es : List Expr} {env : Env} {pos : Pos}, es.all noStar = true → (backTo pos (starEach es env)).any (·.1) = false
  | [], _, _, _ => rfl
  | e :: r, env, pos, h => by
    rw [List.all_cons, Bool.and_eq_true] at h
    rw [star_cons h.1]
    show (false || (backTo pos (starEach r env)).any (·.1)) = false
    rw [stars_any h.2]
    rfl
theorem stars_all : ∀ {es : List Expr} {env : Env} {pos : Pos}, es.all noStar = true → (backTo pos (starEach es env)).all (fun x => !x.1) = true
  | [], _, _, _ => rfl
  | e :: r, env, pos, h => by
    rw [List.all_cons, Bool.and_eq_true] at h
    rw [star_cons h.1]
    show (true && (backTo pos (starEach r env)).all (fun x => !x.1)) = true
    rw [stars_all h.2]
    rfl
theorem pe_boolV (op : BoolOp) {f : Expr → TE} {pos : Pos} : ∀ {es : List Expr}, (∀ e ∈ es, PE X e (f e)) → PE X (.BoolOp op es pos) (boolV op f es)
  | [], _ => pe_fls
  | [e], h => pe_one (h e List.mem_cons_self)
  | e :: e2 :: r, h => by
    have ih := pe_boolV op (f := f) (pos := pos) (es := e2 :: r) fun e' he => h e' (List.mem_cons_of_mem _ he)
    cases op with
    | And => exact pe_and (h e List.mem_cons_self) ih
    | Or => exact pe_or (h e List.mem_cons_self) ih
theorem pw_boolT (op : BoolOp) {f : Expr → TT} {pos : Pos} : ∀ {es : List Expr}, (∀ e ∈ es, PT X e (f e)) → PW X (.BoolOp op es pos) (boolT op f es)
  | [], _ => ⟨fun _ _ _ _ _ _ _ q => q.elim⟩
  | [e], h => by
    cases op with
    | And => exact pw_and1 (h e List.mem_cons_self)
    | Or => exact pw_or1 (h e List.mem_cons_self)
  | e :: e2 :: r, h => by
    have ih := pw_boolT op (f := f) (pos := pos) (es := e2 :: r) fun e' he => h e' (List.mem_cons_of_mem _ he)
    cases op with
    | And => exact pw_and (h e List.mem_cons_self) ih
    | Or => exact pw_or (h e List.mem_cons_self) ih
theorem po_rd {f : Expr → TE} {o : Option Expr} (h : ∀ e, PE X e (f e)) : PO X o (rdO f o) := by
  cases o with
  | none => exact po_none
  | some e => exact po_some (h e)
theorem pt_tru {e : Expr} {te : TE} (h : PE X e te) (he : ∀ whole, isTrue e X.env whole = (do let v ← whole; standAt e.pos; holding [v] (truthy v))) : PT X e (tTru te) := by
  refine ⟨fun pins s σ H Q I hw => isTrue_plain (thn (h.run pins s σ H _ I hw) fun v s1 hx => ?_) (he _)⟩
  obtain ⟨x, H1, I1, r1, k, e, q⟩ := hx
  exact tru_ok pins s1 σ H1 x v Q I1 r1 ⟨k, truA_ok e, q⟩
theorem pps_rd {f : Expr → TE} {pos : Pos} (h : ∀ e, PE X e (f e)) : ∀ {ks : List (Option Expr)} {vs : List Expr} {trs : List (TE × TE)}, rdD f ks vs = some trs → PPs X pos ks vs trs ∧ (ks.all fun x => x.isSome) = true ∧ ks.length = vs.length
  | [], [], _, e => by cases e; exact ⟨pps_nil, rfl, rfl⟩
  | none :: ks, _, _, e => by cases e
  | [], _ :: _, _, e => by cases e
  | some kk :: ks, [], _, e => by cases e
  | some kk :: ks, v :: vs, trs, e => by
    have e' : (rdD f ks vs).map ((f kk, f v) :: ·) = some trs := e
    cases e2 : rdD f ks vs with
    | none => rw [e2] at e'; cases e'
    | some t =>
      rw [e2] at e'
      cases e'
      obtain ⟨h1, h2, h3⟩ := pps_rd h e2
      refine ⟨pps_cons (h kk) (h v) h1, ?_, ?_⟩
      · show (true && ks.all fun x => x.isSome) = true
        rw [h2]
        rfl
      · show ks.length + 1 = vs.length + 1
        rw [h3]
/-! ### calls of built-ins -/
theorem isH_ok (hX : XOk P w mg base k G S X) : CallR X (.builtin "isinstance") (rIsH G.K S.hot) := by
  cases eh : S.hot with
  | none => exact isi_ok
  | some q =>
    obtain ⟨a, cls, d⟩ := q
    intro pins s σ H xs us Q I r h
    rcases h with h | ⟨c, cv, D, b, rfl, hd, hcl, hC, hc, hk, q⟩
    · exact isi_ok pins s σ H xs us Q I r h
    · obtain ⟨oe, hp, hz, vs, hv⟩ := hX.hot a cls d eh
      obtain ⟨u1, u2, rfl, r1, r2⟩ := vals2 r
      cases r1
      have e2 : u2 = cv := by
        cases c with
        | ty n => cases hc; exact r2
        | ref C => cases hc; exact r2
        | _ => cases hc
      subst e2 hd hcl
      obtain ⟨hget, _⟩ := I.pin (a, oe) (List.mem_append_left _ hp)
      have J : PySem.W.InstAt s.heap a oe D none := by
        obtain ⟨oc, od, oda, osl⟩ := oe
        obtain ⟨h1, h2⟩ := hz
        dsimp only at h1 h2 hv
        subst h1 h2 hv
        exact ⟨hget, rfl, rfl, trivial⟩
      rw [← hX.eK] at hC hk
      exact PySem.W.kia_one (PySem.W.handS_kitx_exc hC.hg hC.hk hC.hs hC.hd hC.ha hC.hn hC.ht hC.hm) I.kIn J hk (fun z => nomatch z) fun tk => ⟨.bl b, H, I.kept (t' := tk) fun _ _ z => z, rfl, q⟩
theorem boot_b {x : Str} {r : List V → Hp → VK → Prop} (hX : XOk P w mg base k G S X) (h : rBlt G S.hot x = some r) : ∃ id, bootBuiltins x = some (.builtin id) ∧ CallR X (.builtin id) r := by
  unfold rBlt at h
  split at h
  · rename_i e; subst e; cases h; exact ⟨"len", by decide +kernel, len_ok⟩
  split at h
  · rename_i e; subst e; cases h; exact ⟨"isinstance", by decide +kernel, isH_ok hX⟩
  split at h
  · cases h
  rename_i hh
  have hc := (calm_of hX hh).1
  split at h
  · rename_i e; subst e; cases h; exact ⟨"sorted", by decide +kernel, srt_ok hc⟩
  split at h
  · rename_i e; subst e; cases h; exact ⟨"all", by decide +kernel, all_ok hc⟩
  split at h
  · rename_i e; subst e; cases h; exact ⟨"any", by decide +kernel, any_ok hc⟩
  split at h
  · rename_i e; subst e; cases h; exact ⟨"max", by decide +kernel, max_ok hc⟩
  split at h
  · rename_i e; subst e; cases h; exact ⟨"min", by decide +kernel, min_ok hc⟩
  · cases h
theorem boot_t {x : Str} {r : List V → Hp → VK → Prop} (hX : XOk P w mg base k G S X) (h : rTyp S.hot x = some r) : ∃ T, bootBuiltins x = some (.type T) ∧ CallR X (.type T) r := by
  unfold rTyp at h
  split at h
  · rename_i e; subst e; cases h; exact ⟨"int", by decide +kernel, call_int1⟩
  split at h
  · cases h
  rename_i hh
  have hc := (calm_of hX hh).1
  split at h
  · rename_i e; subst e; cases h; exact ⟨"dict", by decide +kernel, dict_ok hc⟩
  · cases h
/-- a call from a suite -/
theorem run_fnS' {f : Addr} {fd : FuncData} {ps : List Str} {a : Addr} {cls : Value} {d : Option Addr} {sp : Sp} {oe : Obj} {pins : List (Addr × Obj)} {σ : L2.St} {H : Hp} {s : Shared} {Q : VK} {us : List Value} {vs : List V}
    (F : FnS X.prog X.w X.K X.mg X.base k f fd ps a cls d sp) (hdp : X.A.depth + 3 * k + 5 < recursionLimit) (hun : X.A.units + 16 * k + 200 < cLine) (hp : (a, oe) ∈ X.pn) (hz : Zc cls d oe) (hv : ∃ fs, oe.data = .fields fs) (hb : Binds X.K fd ps [])
    (I : Inv X pins σ H s) (r : Vals vs us) (h : sp vs H Q E0) : wpAny (model X.prog X.w) X.A (call (.ref f) us) (EP X pins σ Q) X.xe s := by
  have hl : us.length = ps.length := r.length.symm.trans (F.len _ _ _ _ h)
  have b := hb s us I.kIn (by rw [List.append_nil, hl])
  rw [List.append_nil] at b
  obtain ⟨g1, g2, g3, g4, g5⟩ := I.pin (a, oe) (List.mem_append_left _ hp)
  have hpin : L2H.PinOk X.stack H s (a, oe) := {
    get := g1
    free := g2
    nofs := fun hm => by
      rcases List.mem_cons.mp (I.stkSub a hm) with z | z
      · exact g3 z
      · exact g4 z
    nocell := g5 }
  refine wpAny_call (codeAny_mono (F.run X.A X.stack s H ⟨us, []⟩ us vs Q oe hdp hun hpin hz hv I.env0 b r h) ?_)
  intro r' s' hq
  cases r' with
  | error e => exact (show False from hq).elim
  | ok fl =>
    cases fl
    case ret u => exact I.after hq
    all_goals exact (show False from hq).elim
theorem pe_callSu {f : Addr} {fd : FuncData} {ps : List Str} {a : Addr} {cls : Value} {d : Option Addr} {sp : Sp} {oe : Obj} {x : Str} {e : Expr} {es : List Expr} {t : TA} {q pos : Pos} {E : L2.St → XK}
    (F : FnS X.prog X.w X.K X.mg X.base k f fd ps a cls d sp) (hsp : ∀ vs H Q E, sp vs H Q E → sp vs H Q E0) (hdp : X.A.depth + 3 * k + 5 < recursionLimit) (hun : X.A.units + 16 * k + 200 < cLine) (hp : (a, oe) ∈ X.pn) (hz : Zc cls d oe) (hv : ∃ fs, oe.data = .fields fs)
    (hg : Gl X x) (hm : X.mg x = some (.ref f)) (hk : PySem.W.keepIn X.K (.ref f) = true) (hb : Binds X.K fd ps []) (ha : PA X (e :: es) t) (hdb : (x == ("__debug__" : Str)) = false)
    (he : starEach (e :: es) X.env = (false, eval e X.env) :: starEach es X.env) (hpl : (backTo pos (starEach es X.env)).any (·.1) = false) : PE X (.Call (.Name x q) (e :: es) [] pos) (tCallS sp E t) := by
  refine ⟨fun pins s σ H Q I h => wpAny_Call_Name_kw (ld_glob I hg hm ?_ hdb)⟩
  refine PySem.W.callWith_K (h₀ := X.base) I.ok.mod.kin hk (thn (ha.run pos pins s σ H _ I h) ?_) he hpl
  intro us s1 hx
  obtain ⟨vs, H1, I1, r, q⟩ := hx
  exact ⟨I1.kIn, run_fnS' F hdp hun hp hz hv hb I1 r (hsp _ _ _ _ q)⟩
theorem pe_callA {x : Str} {e : Expr} {es : List Expr} {t : TA} {p pos : Pos} (hX : XOk P w mg base k G S X) (hG : GOk P w mg base k G) (tk : Takes X W) (ha : PA X (e :: es) t) (hs : (e :: es).all noStar = true) :
    PE X (.Call (.Name x p) (e :: es) [] pos) (rdCall G S W x t) := by
  have hs2 : noStar e = true ∧ es.all noStar = true := by
    rw [List.all_cons, Bool.and_eq_true] at hs
    exact hs
  have st := star_cons (es := es) (env := X.env) hs2.1
  have pl := stars_any (env := X.env) (pos := pos) hs2.2
  unfold rdCall
  split
  · exact pe_fls
  rename_i ho
  obtain ⟨o1, o2, o3⟩ := odd_ne ho
  split
  · rename_i hg
    have g := gl_of hX hg
    split
    · rename_i sp hsp
      cases eh : S.hot with
      | none =>
        have hsp' : G.fn x = some sp := by
          unfold fnAt at hsp
          rw [eh] at hsp
          exact hsp
        obtain ⟨f, fd, ps, hm, hk, hb, hF⟩ := hG.fn x sp hsp'
        rw [← hX.eP, ← hX.ew, ← hX.eK, ← hX.em, ← hX.eb] at hF
        rw [← hX.em] at hm
        rw [← hX.eK] at hk hb
        exact pe_callS hF (hX.calm eh).2 g hm hk hb (fun σ => passAt tk σ) ha o1 st pl
      | some q =>
        obtain ⟨a, cls, d⟩ := q
        have hsp' : G.fnH a cls d x = some sp := by
          unfold fnAt at hsp
          rw [eh] at hsp
          exact hsp
        obtain ⟨f, fd, ps, hm, hk, hb, hF, hE⟩ := hG.fnH a cls d x sp hsp'
        rw [← hX.eP, ← hX.ew, ← hX.eK, ← hX.em, ← hX.eb] at hF
        rw [← hX.em] at hm
        rw [← hX.eK] at hk hb
        obtain ⟨oe, hp, hz, hv⟩ := hX.hot a cls d eh
        exact pe_callSu hF hE hX.dp hX.un hp hz hv g hm hk hb ha o1 st pl
    · split
      · rename_i hf
        have hm : X.mg x = none := by rw [hX.em]; exact hG.free x hf
        split
        · rename_i r hr
          obtain ⟨id, hb, hc⟩ := boot_b hX hr
          exact pe_callB hc g hm hb ha o3 o1 st pl
        · split
          · rename_i r hr
            obtain ⟨T, hb, hc⟩ := boot_t hX hr
            exact pe_callTy hc g hm hb ha o3 o1 st pl
          · exact pe_fls
      · exact pe_fls
  · exact pe_fls
end
end RD
end
section
set_option Elab.async false
set_option maxRecDepth 100000
set_option maxHeartbeats 1000000
namespace RD
open PySem PySem.Spec PyProof.Rows L2
section
variable {P : Program} {w : World} {mg : Str → Option Value} {base : Heap} {k : Nat} {G : GT} {S : SC} {X : Cx} {W : WX}
/-! ### targets -/
theorem pg_nm (hX : XOk P w mg base k G S X) {x : Str} {pos : Pos} : PG X (.Name x pos) (rdTgN S x) := by
  unfold rdTgN
  split
  · rename_i i hi
    split
    · rename_i ho
      obtain ⟨h1, h2⟩ := hX.own x ho
      exact pg_name hX.nd (idx_at hX hi) h1 h2
    · exact pg_fls
  · exact pg_fls
theorem pgs_fls {es : List Expr} : PGs X es (fun _ _ _ _ => False) := ⟨fun _ _ _ _ _ _ _ _ _ q => q.elim⟩
theorem pgs_rd (hX : XOk P w mg base k G S X) : ∀ {es : List Expr}, PGs X es (gList S es)
  | [] => pgs_nil
  | e :: r => by
    cases e with
    | Name x pos => exact pgs_cons (pg_nm hX) (pgs_rd hX)
    | _ => exact pgs_fls
theorem each_len : ∀ {es : List Expr} {env : Env}, (assignEach es env).length = es.length
  | [], _ => rfl
  | e :: r, env => by
    cases e <;> exact congrArg (· + 1) (each_len (es := r))
theorem tgN_out {x : Str} {v : V} {σ : L2.St} {H : Hp} {Q : L2.St → Hp → Prop} (h : rdTgN S x v σ H Q) : ∃ σ', Q σ' H := by
  unfold rdTgN at h
  cases e : idxN S.N x 0 with
  | none => rw [e] at h; exact h.elim
  | some i =>
    rw [e] at h
    have h' : (if S.own x = true then gName i else tgFls) v σ H Q := h
    by_cases ho : S.own x = true
    · rw [if_pos ho] at h'
      exact ⟨_, h'⟩
    · rw [if_neg ho] at h'
      exact h'.elim
theorem gList_names : ∀ {es : List Expr} {vs : List V} {σ : L2.St} {H : Hp} {Q : L2.St → Hp → Prop}, gList S es vs σ H Q → es.all noStar = true
  | [], _, _, _, _, _ => rfl
  | e :: r, vs, σ, H, Q, h => by
    cases e with
    | Name x pos =>
      show (true && r.all noStar) = true
      have h' : gCons (rdTgN S x) (gList S r) vs σ H Q := h
      obtain ⟨v, vr, _, q⟩ := h'
      obtain ⟨σ', q'⟩ := tgN_out q
      rw [gList_names q']
      rfl
    | _ => exact h.elim
theorem each_star : ∀ {es : List Expr} {env : Env}, es.all noStar = true → (assignEach es env).findIdx? (·.1) = none
  | [], _, _ => rfl
  | e :: r, env, h => by
    rw [List.all_cons, Bool.and_eq_true] at h
    have ih := each_star (env := env) h.2
    have e1 : assignEach (e :: r) env = (false, assign e env) :: assignEach r env := by
      cases e <;> first | rfl | cases h.1
    rw [e1, List.findIdx?_cons, ih]
    rfl
theorem pg_tupA (hX : XOk P w mg base k G S X) (hh : ¬ S.hot.isSome = true) {es : List Expr} {n : Nat} {pos : Pos} : PG X (.Tuple es n pos) (gTup G.K es.length (gList S es)) := by
  by_cases hs : es.all noStar = true
  · have q := pg_tup (k := n) (pos := pos) (calm_of hX hh).1 (pgs_rd hX (es := es)) each_len (each_star hs)
    rw [hX.eK] at q
    exact q
  · refine ⟨fun pins s σ H v u Q I r h => ?_⟩
    obtain ⟨a, xs, _, _, _, q⟩ := h
    exact absurd (gList_names q) hs
theorem pg_rd (hX : XOk P w mg base k G S X) {tg : Expr} : PG X tg (rdTg G.K S tg) := by
  cases tg with
  | Name x pos => exact pg_nm hX
  | Tuple es n pos =>
    show PG X _ (if S.hot.isSome = true then tgFls else gTup G.K es.length (gList S es))
    split
    · exact pg_fls
    · rename_i hh
      exact pg_tupA hX hh
  | _ => exact pg_fls
/-! ### what is walked -/
theorem boot_rg : bootBuiltins "range" = some (.type "range") := by decide +kernel
theorem folded_ok {e : Expr} {env : Env} (h : noSet e = true) : ∀ x, foldedSetIterable e env x = pure x := by
  intro x
  cases e <;> first | rfl | cases h
theorem pi_rd (hX : XOk P w mg base k G S X) (hG : GOk P w mg base k G) {tg e : Expr} {f : Expr → TE} (h : ∀ e, PE X e (f e)) : PI X tg e (rdIt G S f e) := by
  have anyI : ∀ {e : Expr}, PI X tg e (iAny G.K (f e)) := fun {e} => by rw [← hX.eK]; exact pi_any (h e)
  have nI : ∀ {e : Expr}, PI X tg e tiFls := pi_none
  unfold rdIt
  split
  · rename_i x p args pos
    split
    · rename_i ex
      subst ex
      split
      · exact nI
      split
      · rename_i hg
        have g := gl_of hX hg
        split
        · rename_i hf
          have hm : X.mg "range" = none := by rw [hX.em]; exact hG.free _ hf
          split
          · rename_i a
            split
            · rename_i hs
              exact pi_range1 g hm (pa_cons (h a) pa_nil (star_cons hs)) (star_cons hs)
            · exact nI
          · rename_i a b
            split
            · rename_i hs
              exact pi_range2 g hm (pa_cons (h a) (pa_cons (h b) pa_nil (star_cons hs.2)) (star_cons hs.1)) (by rw [star_cons hs.1, star_cons hs.2]; rfl) (star_cons hs.2)
            · exact nI
          · exact nI
        · exact nI
      · exact nI
    · exact anyI
  · exact nI
  · exact anyI
theorem rdIt_set {f : Expr → TE} {e : Expr} (h : noSet e = false) : rdIt G S f e = tiFls := by
  cases e <;> first | rfl | cases h
/-! ### a comprehension's block -/
theorem relS_eq {scope : Scope} {X : Cx} {C : Addr} {cl : List (Str × Addr)} : (compEnvC scope cl C X.env).scope = relS scope X.env.scope := rfl
theorem relS_keepL {scope sc : Scope} {x : Str} {kd : NameKind} (hk : kd ≠ .free) (h : scope.names.lookup x = some kd) : (relS scope sc).names.lookup x = some kd := by
  exact lookup_relS_keep hk h
theorem blk_ok (hX : XOk P w mg base k G S X) (hh : S.hot = none) {s : Shared} {H : Hp} {scope : Scope} {C : Addr} {cl : List (Str × Addr)} {fp : List Addr} (hkd : scope.kind = .function) :
    XOk P w mg base k G (blkSC S scope) (X.blk s H scope (compEnvC scope cl C X.env) fp) where
  eP := hX.eP
  ew := hX.ew
  eK := hX.eK
  em := hX.em
  eb := hX.eb
  N := hX.N
  nd := hX.nd
  sc := by
    show relS scope X.env.scope = relS scope S.sc
    rw [hX.sc]
  kind := hkd
  own := fun x h => by
    have h' : (match scope.names.lookup x with
      | some .local => true
      | some .cell => true
      | _ => false) = true := h
    show Loc (relS scope X.env.scope) x ∧ ((scope.names.lookup x == some .cell) = true ∨ (relS scope X.env.scope).names.lookup x = some .local)
    split at h'
    · rename_i e
      have e2 := relS_keepL (sc := X.env.scope) (by decide) e
      exact ⟨.inl e2, .inr e2⟩
    · rename_i e
      have e2 := relS_keepL (sc := X.env.scope) (by decide) e
      refine ⟨.inr e2, .inl ?_⟩
      rw [e]
      rfl
    · cases h'
  calm := fun _ => hX.calm hh
  hot := fun _ _ _ z => nomatch (show (none : Option (Addr × Value × Option Addr)) = some _ from z)
  dp := hX.dp
  un := hX.un
  po := PassesOwn.never
  top := fun z => nomatch (show false = true from z)
theorem blk_takes {s : Shared} {H : Hp} {scope : Scope} {cenv : Env} {fp : List Addr} : Takes (X.blk s H scope cenv fp) W0 := takes0
end
end RD
end
section
set_option Elab.async false
set_option maxRecDepth 100000
set_option maxHeartbeats 1000000
namespace RD
open PySem PySem.Spec PyProof.Rows L2
structure RecOk (P : Program) (w : World) (mg : Str → Option Value) (base : Heap) (k : Nat) (G : GT) (R : Rec) : Prop where
  e : ∀ S W X ex, XOk P w mg base k G S X → Takes X W → PE X ex (R.e S W ex)
  t : ∀ S W X ex, XOk P w mg base k G S X → Takes X W → PT X ex (R.t S W ex)
  s : ∀ S W X st, XOk P w mg base k G S X → Takes X W → PS X st (R.s S W st)
section
variable {P : Program} {w : World} {mg : Str → Option Value} {base : Heap} {k : Nat} {G : GT} {S : SC} {X : Cx} {W : WX} {R : Rec}
theorem hu64 (hX : XOk P w mg base k G S X) : X.A.units + 64 < cLine := by have := hX.un; omega
theorem hu1 (hX : XOk P w mg base k G S X) : X.A.units + 1 < cLine := by have := hX.un; omega
theorem pts_rd {f : Expr → TT} {ifs : List Expr} (h : ∀ e, PT X e (f e)) : PTs X ifs (tIfs f ifs) := by
  match ifs with
  | [] => exact pts_nil
  | [c] => exact pts_one (h c)
  | _ :: _ :: _ => exact ⟨fun _ _ _ _ _ _ q => q.elim⟩
theorem behind_ok {op : CmpOp} {b : Expr} (h : noSet b = true) : behindInMarks op b = false := by
  cases b <;> first | rfl | cases h
theorem base_ok {o : Expr} {m : Str} {env : Env} (h : noSuper o = true) : attributeBase o m env (eval o env) = eval o env := by
  unfold attributeBase
  split
  · cases h
  · rfl
theorem plain_ok {i : Expr} (h : plainIx i = true) : PlainIx i := by
  intro o v
  cases i <;> first | rfl | cases h
/-- the body of a comprehension -/
def lcBody (G : GT) (R : Rec) (S : SC) (W : WX) (elt tg it : Expr) (ifs : List Expr) (scope : Scope) : TE :=
  tLc (rdIt G S (R.e S W) it) (rdTg G.K (blkSC S scope) tg) (tIfs (R.t (blkSC S scope) W0) ifs) (R.e (blkSC S scope) W0 elt) ((ownNs S.N scope).map (·.2))
theorem rdLc_eq {elt tg it : Expr} {ifs : List Expr} {scope : Scope} : rdLc G R S W elt tg it ifs scope =
    if S.hot.isSome = true then tFls else if blkC S.N S.sc scope (ownNs S.N scope) = true then (fun σ H Q => lcBody G R S W elt tg it ifs scope σ H Q ∨ tLockE (lcBody G R S W elt tg it ifs scope) σ H Q) else tFls := rfl
theorem blkC_kind {N : List Str} {sc scope : Scope} {own : List (Str × Nat)} (h : blkC N sc scope own = true) : scope.kind = .function := (blkOk_by h).kind
theorem pe_lcA (hX : XOk P w mg base k G S X) (hG : GOk P w mg base k G) (hR : RecOk P w mg base k G R) (tk : Takes X W) {elt tg it : Expr} {ifs : List Expr} {scope : Scope} {pos : Pos}
    (hh : S.hot = none) (hb : blkC S.N S.sc scope (ownNs S.N scope) = true) (hs : noSet it = true) : PE X (.ListComp elt [⟨tg, it, ifs, 0⟩] scope pos) (lcBody G R S W elt tg it ifs scope) := by
  have kd := blkC_kind hb
  have ok : BlkOk X.N X.env.scope scope (ownNs S.N scope) := by rw [hX.N, hX.sc]; exact blkOk_by hb
  refine pe_lc (hX.calm hh).1 hX.nd (pi_rd hX hG fun e => hR.e S W X e hX tk) ok (fun s H C cl fp => ?_) (fun s H C cl fp => ?_) (fun s H C cl fp => ?_) (folded_ok hs)
  · exact pg_rd (blk_ok hX hh kd)
  · exact pts_rd fun c => hR.t _ W0 _ c (blk_ok hX hh kd) blk_takes
  · exact hR.e _ W0 _ elt (blk_ok hX hh kd) blk_takes
theorem lc_setless {elt tg it : Expr} {ifs : List Expr} {scope : Scope} (hs : noSet it = false) : ∀ σ H Q, ¬ lcBody G R S W elt tg it ifs scope σ H Q := by
  intro σ H Q h
  unfold lcBody at h
  rw [rdIt_set hs] at h
  exact h
theorem pe_lcR (hX : XOk P w mg base k G S X) (hG : GOk P w mg base k G) (hR : RecOk P w mg base k G R) (tk : Takes X W) {elt tg it : Expr} {ifs : List Expr} {scope : Scope} {pos : Pos} :
    PE X (.ListComp elt [⟨tg, it, ifs, 0⟩] scope pos) (rdLc G R S W elt tg it ifs scope) := by
  rw [rdLc_eq]
  split
  · exact pe_fls
  rename_i hh
  have hh : S.hot = none := by
    cases e : S.hot with
    | none => rfl
    | some q => rw [e] at hh; exact absurd rfl hh
  split
  · rename_i hb
    cases hs : noSet it with
    | true =>
      have q := pe_lcA (pos := pos) hX hG hR tk (elt := elt) (tg := tg) (ifs := ifs) hh hb hs
      exact pe_orr q (pe_lock q)
    | false =>
      refine ⟨fun pins s σ H Q I h => ?_⟩
      rcases h with h | ⟨d, u, _, _, h⟩
      · exact absurd h (lc_setless hs σ H Q)
      · exact absurd (h { cls := .none, data := .cell none }) (lc_setless hs _ _ _)
  · exact pe_fls
theorem pe_callL (hX : XOk P w mg base k G S X) (hG : GOk P w mg base k G) (tk : Takes X W) (he : ∀ e, PE X e (R.e S W e)) {x : Str} {p pos : Pos} : ∀ {args : List Expr},
    PE X (.Call (.Name x p) args [] pos) (match args with
      | [] => tFls
      | _ => if args.all noStar = true then rdCall G S W x (rdA (R.e S W) args) else tFls)
  | [] => pe_fls
  | a :: r => by
    show PE X _ (if (a :: r).all noStar = true then rdCall G S W x (rdA (R.e S W) (a :: r)) else tFls)
    split
    · rename_i hs
      exact pe_callA hX hG tk (pa_rd fun e _ => he e) hs
    · exact pe_fls
theorem pe_methL (he : ∀ e, PE X e (R.e S W e)) {o : Expr} {m : Str} {apos cpos : Pos} : ∀ {args : List Expr},
    PE X (.Call (.Attribute o m apos) args [] cpos) (match args with
      | [] => tFls
      | _ => if noSuper o = true ∧ (apos.endLine == cpos.line) = true ∧ args.length < 20 ∧ args.all noStar = true then tMt m (R.e S W o) (rdA (R.e S W) args) else tFls)
  | [] => pe_fls
  | a :: r => by
    show PE X _ (if noSuper o = true ∧ (apos.endLine == cpos.line) = true ∧ (a :: r).length < 20 ∧ (a :: r).all noStar = true then tMt m (R.e S W o) (rdA (R.e S W) (a :: r)) else tFls)
    split
    · rename_i hs
      obtain ⟨h1, h2, h3, h4⟩ := hs
      have h5 : noStar a = true ∧ r.all noStar = true := by
        rw [List.all_cons, Bool.and_eq_true] at h4
        exact h4
      refine pe_mt (he o) (pa_rd fun e _ => he e) (base_ok h1) ?_ h2 (star_cons h5.1) (stars_any h5.2)
      rw [stars_all h4]
      have e3 : decide ((a :: r).length + ([] : List Keyword).length + (if ([] : List Keyword).isEmpty then 0 else 1) < 30) = true := decide_eq_true (by
        show (a :: r).length + 0 + 0 < 30
        omega)
      rw [e3]
      rfl
    · exact pe_fls
theorem pe_dictL (he : ∀ e, PE X e (R.e S W e)) {pos : Pos} : ∀ {ks : List (Option Expr)} {vs : List Expr},
    PE X (.Dict ks vs pos) (match ks with
      | [] => (match vs with
        | [] => tDNewK
        | _ => tFls)
      | _ => if ks.length ≤ 15 then (match rdD (R.e S W) ks vs with
        | some trs => tDisp trs
        | none => tFls) else tFls)
  | [], [] => pe_dnewK
  | [], _ :: _ => pe_fls
  | q :: ks, vs => by
    show PE X _ (if (q :: ks).length ≤ 15 then (match rdD (R.e S W) (q :: ks) vs with
        | some trs => tDisp trs
        | none => tFls) else tFls)
    split
    · rename_i hl
      cases e : rdD (R.e S W) (q :: ks) vs with
      | none => exact pe_fls
      | some trs =>
        obtain ⟨h1, h2, h3⟩ := pps_rd (pos := pos) he e
        exact pe_disp h1 h2 h3 (by simp) hl
    · exact pe_fls
theorem stepE_ok (hX : XOk P w mg base k G S X) (hG : GOk P w mg base k G) (hR : RecOk P w mg base k G R) (tk : Takes X W) : ∀ ex, PE X ex (stepE G R S W ex) := by
  intro ex
  have he : ∀ e, PE X e (R.e S W e) := fun e => hR.e S W X e hX tk
  have ht : ∀ e, PT X e (R.t S W e) := fun e => hR.t S W X e hX tk
  unfold stepE
  split
  · split
    · exact pe_int
    · exact pe_bl
    · exact pe_non
    · exact pe_str
    · exact pe_fls
  · exact pe_nm hX hG
  · exact pe_op (bin_any _) (he _) (he _)
  · exact pe_un un_neg (he _)
  · exact pe_not (he _)
  · exact pe_boolV _ fun e _ => he e
  · exact pe_ifExp (ht _) (he _) (he _)
  · split
    · rename_i hs
      rw [← hX.eK]
      exact pe_cmpR (cmp_any (hu64 hX) _) (he _) (he _) (behind_ok hs)
    · exact pe_fls
  · exact pe_callL hX hG tk he
  · exact pe_methL he
  · exact pe_slice sl_any (he _) (po_rd he) (po_rd he)
  · split
    · rename_i hs
      exact pe_ix (ix_any (hu1 hX)) (he _) (he _) (plain_ok hs)
    · exact pe_fls
  · exact pe_lst (pa_rd fun e _ => he e)
  · exact pe_tup (pa_rd fun e _ => he e)
  · exact pe_dictL he
  · exact pe_lcR hX hG hR tk
  · exact pe_fls
theorem true_ok {e : Expr} (h1 : ∀ a p, e ≠ .UnaryOp .Not a p) (h2 : ∀ op vs p, e ≠ .BoolOp op vs p) (h3 : ∀ a os bs p, e ≠ .Compare a os bs p) (h4 : ∀ c a b p, e ≠ .IfExp c a b p) (env : Env) :
    ∀ whole, isTrue e env whole = (do let v ← whole; standAt e.pos; holding [v] (truthy v)) := by
  intro whole
  cases e
  case UnaryOp op a p =>
    cases op
    case Not => exact absurd rfl (h1 a p)
    all_goals rfl
  case BoolOp op vs p => exact absurd rfl (h2 op vs p)
  case Compare a os bs p => exact absurd rfl (h3 a os bs p)
  case IfExp c a b p => exact absurd rfl (h4 c a b p)
  all_goals rfl
theorem stepT_ok (hX : XOk P w mg base k G S X) (hR : RecOk P w mg base k G R) (tk : Takes X W) : ∀ ex, PT X ex (stepT G R S W ex) := by
  intro ex
  have he : ∀ e, PE X e (R.e S W e) := fun e => hR.e S W X e hX tk
  have ht : ∀ e, PT X e (R.t S W e) := fun e => hR.t S W X e hX tk
  unfold stepT
  split
  · exact pt_not (ht _)
  · exact PW.pt (pw_boolT _ fun e _ => ht e)
  · split
    · rename_i hs
      rw [← hX.eK]
      exact pt_cmpR (cmp_any (hu64 hX) _) (he _) (he _) (behind_ok hs)
    · exact pt_fls
  · exact pt_fls
  · exact pt_fls
  · rename_i h1 h2 h3 h4 h5
    refine pt_tru (he _) (true_ok ?_ ?_ ?_ ?_ _)
    · intro a p e; exact h1 a p e
    · intro op vs p e; exact h2 op vs p e
    · intro a os bs p e; exact h4 a os bs p e
    · intro c a b p e; exact h5 c a b p e
/-! ### statements -/
theorem pss_rd {f : Stmt → TS} : ∀ {sts : List Stmt}, (∀ st ∈ sts, PS X st (f st)) → PSs X sts (rdB f sts)
  | [], _ => pss_nil
  | [st], h => pss_one (h st List.mem_cons_self)
  | st :: s2 :: r, h => pss_cons (h st List.mem_cons_self) (pss_rd fun st' hs => h st' (List.mem_cons_of_mem _ hs))
theorem swaps_no {e : Expr} {t : Option Expr} {l : Nat} {env : Env} (h : noComp e = true) : swapsWith e t l env = pure false := by
  cases e <;> first | rfl | cases h
def swB (sc : Scope) (y : Str) (py pos : Pos) (scope : Scope) : Bool :=
  (sc.names.lookup y == some .local) && (py.line == pos.line) && !(scope.names.any fun (n, k) => n == y && (k == .local || k == .cell))
theorem swaps_lc {elt : Expr} {gs : List Comprehension} {scope : Scope} {pos py : Pos} {y : Str} {l : Nat} {env : Env} (hk : env.scope.kind = .function) :
    swapsWith (.ListComp elt gs scope pos) (some (.Name y py)) l env = pure (swB env.scope y py pos scope) := by
  have hb : env.blockKind = .function := by unfold Env.blockKind; rw [hk]; rfl
  unfold swapsWith
  simp only [hb]
  rfl
theorem swapped_no {ts : List Expr} {m : Nat} {p : Pos} {e : Expr} {env : Env} (h : ∀ es a b, e ≠ .Tuple es a b) : swappedStores [.Tuple ts m p] e env = pure none := by
  unfold swappedStores
  cases e
  case Tuple es a b => exact absurd rfl (h es a b)
  all_goals rfl
theorem swapped_sub {o i : Expr} {p : Pos} {e : Expr} {env : Env} : swappedStores [.Subscript o i p] e env = pure none := by
  unfold swappedStores
  cases e <;> rfl
theorem sub_assign {o i : Expr} {p : Pos} {env : Env} (h : plainIx i = true) (v : Value) : assign (.Subscript o i p) env v = (do
      let ov ← holding [v] (eval o env)
      let iv ← holding [v, ov] (eval i env)
      standAt p
      holding [v, ov, iv] (setItem ov iv v)
      release [v, ov, iv] []) := by
  cases i <;> first | rfl | cases h
end
end RD
end
section
set_option Elab.async false
set_option maxRecDepth 100000
set_option maxHeartbeats 1000000
namespace RD
open PySem PySem.Spec PyProof.Rows L2
section
variable {P : Program} {w : World} {mg : Str → Option Value} {base : Heap} {k : Nat} {G : GT} {S : SC} {X : Cx} {W : WX} {R : Rec}
theorem hot_none {S : SC} (h : ¬ S.hot.isSome = true) : S.hot = none := by
  cases e : S.hot with
  | none => rfl
  | some q => rw [e] at h; exact absurd rfl h
theorem ps_nm (hX : XOk P w mg base k G S X) {x : Str} {e : Expr} {te : TE} {px pos : Pos} (he : PE X e te) (hs : swapsWith e (some (.Name x px)) pos.line X.env = pure false) : PS X (.Assign [.Name x px] e pos) (setN S x te) := by
  unfold setN
  split
  · rename_i i hi
    split
    · rename_i ho
      obtain ⟨h1, h2⟩ := hX.own x ho
      exact ps_set hX.nd (idx_at hX hi) h1 he hs h2
    · exact ps_fls
  · exact ps_fls
theorem ps_lcR (hX : XOk P w mg base k G S X) (hG : GOk P w mg base k G) (hR : RecOk P w mg base k G R) (tk : Takes X W) {x : Str} {elt tg it : Expr} {ifs : List Expr} {scope : Scope} {px p pos : Pos} :
    PS X (.Assign [.Name x px] (.ListComp elt [⟨tg, it, ifs, 0⟩] scope p) pos) (setN S x (rdLc G R S W elt tg it ifs scope)) := by
  have sw := swaps_lc (elt := elt) (gs := [⟨tg, it, ifs, 0⟩]) (scope := scope) (pos := p) (py := px) (y := x) (l := pos.line) (env := X.env) hX.kind
  cases hb : swB X.env.scope x px p scope with
  | false =>
    rw [hb] at sw
    exact ps_nm hX (pe_lcR hX hG hR tk) sw
  | true =>
    rw [hb] at sw
    unfold setN
    split
    · rename_i i hi
      split
      · rw [rdLc_eq]
        by_cases hh : S.hot.isSome = true
        · rw [if_pos hh]
          refine ⟨fun pins s σ H D I h => ?_⟩
          exact (show False from h).elim
        rw [if_neg hh]
        have hh := hot_none hh
        by_cases hbl : blkC S.N S.sc scope (ownNs S.N scope) = true
        · rw [if_pos hbl]
          cases hs : noSet it with
          | false =>
            refine ⟨fun pins s σ H D I h => ?_⟩
            rcases h with h | ⟨d, u, _, _, h⟩
            · exact absurd h (lc_setless hs _ _ _)
            · exact absurd (h { cls := .none, data := .cell none }) (lc_setless hs _ _ _)
          | true =>
            have kd := blkC_kind hbl
            have ok : BlkOk X.N X.env.scope scope (ownNs S.N scope) := by rw [hX.N, hX.sc]; exact blkOk_by hbl
            have hl : X.env.scope.names.lookup x = some .local := by
              unfold swB at hb
              rw [Bool.and_eq_true, Bool.and_eq_true] at hb
              exact beq_iff_eq.mp hb.1.1
            have q : PS X (.Assign [.Name x px] (.ListComp elt [⟨tg, it, ifs, 0⟩] scope p) pos) (tAsg (lcBody G R S W elt tg it ifs scope) (gName i)) := by
              refine ps_setLc (hX.calm hh).1 hX.nd (idx_at hX hi) hl sw (pi_rd hX hG fun e => hR.e S W X e hX tk) ok (fun s H C cl fp => ?_) (fun s H C cl fp => ?_) (fun s H C cl fp => ?_) (folded_ok hs)
              · exact pg_rd (blk_ok hX hh kd)
              · exact pts_rd fun c => hR.t _ W0 _ c (blk_ok hX hh kd) blk_takes
              · exact hR.e _ W0 _ elt (blk_ok hX hh kd) blk_takes
            refine ⟨fun pins s σ H D I h => ?_⟩
            rcases h with h | h
            · exact q.run pins s σ H D I h
            · exact (ps_lock q).run pins s σ H D I h
        · rw [if_neg hbl]
          exact ⟨fun pins s σ H D I h => (show False from h).elim⟩
      · exact ps_fls
    · exact ps_fls
theorem ps_raiseR (hX : XOk P w mg base k G S X) (hG : GOk P w mg base k G) (tk : Takes X W) {e : Expr} {pos : Pos} : PS X (.Raise (some e) none pos) (rdRaise G S W e) := by
  unfold rdRaise
  split
  · split
    · exact ps_fls
    rename_i hh
    split
    · exact ps_fls
    rename_i ho
    obtain ⟨o1, o2, o3⟩ := odd_ne ho
    split
    · rename_i hg
      have g := gl_of hX hg
      split
      · rename_i C _ _ _ hC
        obtain ⟨h1, h2, h3, h4, h5⟩ := hG.exc _ C hC
        rw [← hX.eK] at h2 h3 h4 h5
        rw [← hX.em] at h1
        exact ps_raise (calm_of hX hh).1 tk (pmk_own PySem.F.excBase_ValueError h2 h1 h3 (raises_own h4 h5) g o1)
      · exact ps_fls
    · exact ps_fls
  · exact ps_fls
theorem loc_of (hX : XOk P w mg base k G S X) {x : Str} (h : locB S.sc x = true) : X.env.kindOf x = some .local := by
  show X.env.scope.names.lookup x = some .local
  rw [hX.sc]
  unfold locB at h
  split at h
  · assumption
  · cases h
theorem tr_ok (hX : XOk P w mg base k G S X) (hh : S.hot = none) {pn : List (Addr × Obj)} {xe : Value → Shared → Prop} (po : PassesOwn (model X.prog X.w) X.A X.env xe) : XOk P w mg base k G S (X.tr pn xe) where
  eP := hX.eP
  ew := hX.ew
  eK := hX.eK
  em := hX.em
  eb := hX.eb
  N := hX.N
  nd := hX.nd
  sc := hX.sc
  kind := hX.kind
  own := hX.own
  calm := hX.calm
  hot := fun a cls d z => by rw [hh] at z; cases z
  dp := hX.dp
  un := hX.un
  po := po
  top := hX.top
theorem suite_ok (hX : XOk P w mg base k G S X) {a : Addr} {oe : Obj} {cls : Value} {d : Option Addr} {pn : List (Addr × Obj)} (hz : Zc cls d oe) (hv : ∃ vs, oe.data = .fields vs) :
    XOk P w mg base k G { S with top := false, hot := some (a, cls, d) } (X.suite a ((a, oe) :: pn)) where
  eP := hX.eP
  ew := hX.ew
  eK := hX.eK
  em := hX.em
  eb := hX.eb
  N := hX.N
  nd := hX.nd
  sc := hX.sc
  kind := hX.kind
  own := hX.own
  calm := fun z => nomatch (show (some (a, cls, d) : Option (Addr × Value × Option Addr)) = none from z)
  hot := fun a' cls' d' z => by
    have z' : (some (a, cls, d) : Option (Addr × Value × Option Addr)) = some (a', cls', d') := z
    cases z'
    exact ⟨oe, List.mem_cons_self, hz, hv⟩
  dp := hX.dp
  un := hX.un
  po := PassesOwn.never
  top := fun z => nomatch (show false = true from z)
theorem ps_tryR (hX : XOk P w mg base k G S X) (hG : GOk P w mg base k G) (hR : RecOk P w mg base k G R) (tk : Takes X W) {body : List Stmt} {x n : Str} {b₀ : Stmt} {suite : List Stmt} {np pos' pos : Pos} :
    PS X (.Try body [.ExceptHandler (some (.Name x np)) (some n) (b₀ :: suite) pos'] [] [] pos) (rdTry G R S W body x n (b₀ :: suite)) := by
  unfold rdTry
  split
  · rename_i hs
    obtain ⟨h1, h2, h3, h4, h5⟩ := hs
    obtain ⟨t1, t2⟩ := hX.top h1
    split
    · rename_i c i hc hi
      have hm := hG.ecl x c hc
      rw [← hX.em] at hm
      have o1 : (x == ("__debug__" : Str)) = false := (odd_ne (by rw [h3]; decide)).1
      rw [← hX.eK]
      refine ps_try_as (c := c) (i := i) (ts := fun a cls d => rdB (R.s { S with top := false, hot := some (a, cls, d) } W0) (b₀ :: suite)) (Wout := W) (tb := fun W' => rdB (R.s S W') body) t1 t2 hX.nd (idx_at hX hi) (loc_of hX h5) ⟨gl_of hX h4, o1, .inl hm⟩ tk (fun W' pn xe tk' po => ?_) (fun a oe cls d pn hz hv => ?_)
      · exact pss_rd fun st _ => hR.s S W' _ st (tr_ok hX h2 po) tk'
      · exact pss_rd fun st _ => hR.s _ W0 _ st (suite_ok hX hz hv) takes0
    · exact ps_fls
  · exact ps_fls
theorem sole_no {e t : Expr} {l : Nat} {env : Env} (h : noComp e = true) : swapsWithSole [t] e l env = pure false := by
  unfold swapsWithSole
  exact swaps_no h
theorem stepS_ok (hX : XOk P w mg base k G S X) (hG : GOk P w mg base k G) (hR : RecOk P w mg base k G R) (tk : Takes X W) : ∀ st, PS X st (stepS G R S W st) := by
  intro st
  have he : ∀ e, PE X e (R.e S W e) := fun e => hR.e S W X e hX tk
  have ht : ∀ e, PT X e (R.t S W e) := fun e => hR.t S W X e hX tk
  have hs : ∀ s, PS X s (R.s S W s) := fun s => hR.s S W X s hX tk
  unfold stepS
  split
  · exact ps_pass
  · exact ps_break
  · exact ps_continue
  · split
    · rename_i h
      exact ps_expr (he _) (swaps_no h)
    · exact ps_fls
  · exact ps_retN
  · exact ps_ret (he _)
  · exact ps_if (ht _) (pss_rd fun s _ => hs s) (pss_rd fun s _ => hs s)
  · split
    · exact ps_fls
    rename_i tg it body pos hh
    cases hn : noSet it with
    | true =>
      have q := ps_for (pos := pos) hX.po (calm_of hX hh).1 (pi_rd hX hG he) (pg_rd hX (tg := tg)) (pss_rd (sts := body) fun s _ => hs s) (folded_ok hn)
      exact ps_orr q (ps_lock q)
    | false =>
      refine ⟨fun pins s σ H D I h => ?_⟩
      rcases h with h | ⟨d, u, _, _, h⟩
      · unfold tFor at h
        rw [rdIt_set hn] at h
        exact (show False from h).elim
      · have h' := h { cls := .none, data := .cell none }
        unfold tFor at h'
        rw [rdIt_set hn] at h'
        exact (show False from h').elim
  · split
    · exact ps_fls
    exact ps_while hX.po (ht _) (pss_rd fun s _ => hs s)
  · exact ps_raiseR hX hG tk
  · exact ps_tryR hX hG hR tk
  · split
    · exact ps_lcR hX hG hR tk
    · split
      · rename_i h
        exact ps_nm hX (he _) (swaps_no h)
      · exact ps_fls
  · split
    · rename_i h
      exact ps_asg (he _) (pg_sub (he _) (he _) (set_any (hu1 hX)) (sub_assign h.2)) (sole_no h.1) swapped_sub rfl
    · exact ps_fls
  · split
    · exact ps_fls
    rename_i hh
    split
    · exact ps_fls
    · rename_i hne
      split
      · rename_i h
        exact ps_asg (he _) (pg_tupA hX hh) (sole_no h) (swapped_no fun es a b e => hne es a b e) rfl
      · exact ps_fls
  · exact ps_fls
end
end RD
end
section
set_option Elab.async false
set_option maxRecDepth 100000
set_option maxHeartbeats 1000000
namespace RD
open PySem PySem.Spec PyProof.Rows L2
/-! ## the whole program, by levels -/
/-- the reading, d steps deep -/
def rd (G : GT) : Nat → Rec
  | 0 => ⟨fun _ _ _ => tFls, fun _ _ _ => fun _ _ _ => False, fun _ _ _ => tsFls⟩
  | d + 1 => ⟨stepE G (rd G d), stepT G (rd G d), stepS G (rd G d)⟩
theorem rd_ok {P : Program} {w : World} {mg : Str → Option Value} {base : Heap} {k : Nat} {G : GT} (hG : GOk P w mg base k G) : ∀ d, RecOk P w mg base k G (rd G d)
  | 0 => ⟨fun _ _ _ _ _ _ => pe_fls, fun _ _ _ _ _ _ => pt_fls, fun _ _ _ _ _ _ => ps_fls⟩
  | d + 1 => ⟨fun _ _ _ ex hX tk => stepE_ok hX hG (rd_ok hG d) tk ex, fun _ _ _ ex hX tk => stepT_ok hX (rd_ok hG d) tk ex, fun _ _ _ st hX tk => stepS_ok hX hG (rd_ok hG d) tk st⟩
/-- a def of the text: its names by slot, its parameters -/
structure Df where
  d : He.DefD
  N : List Str
  ps : List Str
def defSC (d : Df) : SC := ⟨d.N, d.d.scope, fun x => match d.d.scope.names.lookup x with
  | some .local => true
  | some .cell => true
  | _ => false, true, none⟩
def hotSC (d : Df) (h : Addr × Value × Option Addr) : SC := { defSC d with top := false, hot := some h }
/-- how deep the reading goes -/
abbrev deep : Nat := 40
def bodyOf (G : GT) (d : Df) : Sp := fun vs H Q E => vs.length = d.ps.length ∧ rdB ((rd G deep).s (defSC d) fun cls dd _ H' => E cls dd H') d.d.body { nx := fun _ H' => Q .non H', rt := Q } (start d.N vs) H
def bodyHot (G : GT) (d : Df) (h : Addr × Value × Option Addr) : Sp := fun vs H Q _ => vs.length = d.ps.length ∧ rdB ((rd G deep).s (hotSC d h) W0) d.d.body { nx := fun _ H' => Q .non H', rt := Q } (start d.N vs) H
structure DfOk (d : Df) : Prop where
  sc : FnScope d.N d.ps d.d.scope
  bind : ∀ (kV doc pm : Value) (an : Option Addr) (cdv ct : Value) (us : List Value), us.length = d.ps.length → bindArgs (PySem.W.fnOf d.d.name d.d.qual d.d.params d.d.body d.d.scope .none kV doc pm an cdv ct) ⟨us, []⟩ = pure (d.ps.zip us)
  dfl : d.d.dfl = []
  kwd : d.d.kwd = []
/-- what the program is, behind its top -/
structure Tb where
  K : PySem.W.Frag
  defs : List (Str × Df)
  gv : Str → Option V
  free : Str → Bool
  exc : Str → Option Addr
  ecl : Str → Option Value
/-- the promises at level n: of a def, of a def called from an except suite -/
structure Lv where
  fn : Df → Sp
  hot : Addr × Value × Option Addr → Df → Sp
def gt (T : Tb) (L : Lv) : GT where
  K := T.K
  fn := fun x => (T.defs.lookup x).map L.fn
  gv := T.gv
  free := T.free
  exc := T.exc
  ecl := T.ecl
  fnH := fun a cls d x => (T.defs.lookup x).map (L.hot (a, cls, d))
def lv (T : Tb) : Nat → Lv
  | 0 => ⟨fun _ _ _ _ _ => False, fun _ _ _ _ _ _ => False⟩
  | n + 1 => ⟨bodyOf (gt T (lv T n)), fun h d => bodyHot (gt T (lv T n)) d h⟩
def run (T : Tb) (n : Nat) (d : Df) : Sp := (lv T n).fn d
theorem run_succ (T : Tb) (n : Nat) (d : Df) : run T (n + 1) d = bodyOf (gt T (lv T n)) d := rfl
structure TOk (mg : Str → Option Value) (T : Tb) : Prop where
  defs : ∀ p ∈ T.defs, DfOk p.2 ∧ ∃ f fd, mg p.1 = some (.ref f) ∧ FunD T.K p.2.d.name p.2.d.qual p.2.d.params p.2.d.body p.2.d.scope [] [] f fd
  gv : ∀ x v, T.gv x = some v → ∃ u, mg x = some u ∧ RelV v u
  free : ∀ x, T.free x = true → mg x = none
  exc : ∀ x C, T.exc x = some C → mg x = some (.ref C) ∧ PySem.W.excIn T.K C [.type "ValueError", .type "Exception", .type "BaseException", .type "object"] "ValueError.__new__" = true ∧ PySem.W.keepIn T.K (.ref C) = true ∧
    PySem.W.subIn T.K (.ref C) (.type "BaseException") = some true ∧ PySem.W.typeIn T.K (.ref C) = some (.type "type")
  ecl : ∀ x c, T.ecl x = some c → mg x = some c
section
variable {P : Program} {w : World} {mg : Str → Option Value} {base : Heap} {k : Nat} {G : GT}
theorem own_def {sc : Scope} {x : Str} (h : (match sc.names.lookup x with
  | some .local => true
  | some .cell => true
  | _ => false) = true) : Loc sc x := by
  split at h
  · exact .inl (by assumption)
  · exact .inr (by assumption)
  · cases h
/-- a def keeps what its body reads -/
theorem fn_ok (hG : GOk P w mg base k G) {d : Df} (hd : DfOk d) {f : Addr} {fd : FuncData} (F : FunD G.K d.d.name d.d.qual d.d.params d.d.body d.d.scope [] [] f fd) :
    FnOk P w G.K mg base (L2.CX P w) (k + 1) f fd d.ps (bodyOf G d) := by
  refine F.ok hd.sc (fun vs H Q E h => h.1) (fun cdv A outer s H vs Q E hr h => ⟨_, ?_, h.2⟩)
  refine pss_rd fun st _ => (rd_ok hG deep).s (defSC d) _ _ st ?_ (takes_of rfl rfl rfl rfl)
  exact {
    eP := rfl
    ew := rfl
    eK := rfl
    em := rfl
    eb := rfl
    N := rfl
    nd := hd.sc.nd
    sc := rfl
    kind := hd.sc.kind
    own := fun x hx => ⟨own_def hx, .inl rfl⟩
    calm := fun _ => ⟨rfl, hr⟩
    hot := fun _ _ _ z => nomatch (show (none : Option (Addr × Value × Option Addr)) = some _ from z)
    dp := hr.dp
    un := hr.un
    po := passes_of rfl
    top := fun _ => ⟨rfl, rfl⟩ }
/-- a def called from an except suite keeps what its body reads -/
theorem fn_okS (hG : GOk P w mg base k G) {d : Df} (hd : DfOk d) {f : Addr} {fd : FuncData} (F : FunD G.K d.d.name d.d.qual d.d.params d.d.body d.d.scope [] [] f fd) (a : Addr) (cls : Value) (dd : Option Addr) :
    FnS P w G.K mg base (k + 1) f fd d.ps a cls dd (bodyHot G d (a, cls, dd)) := by
  obtain ⟨oc, od, dV, kV, doc, pm, an, cdv, ct, osl, rfl, lk, hcd, _, _⟩ := F.ex
  refine ⟨fun vs H Q E h => h.1, fun A outer s H args us vs Q oe hdp hun hpin hz hv e0 hb r hsp => ?_⟩
  have hKs : G.K.In s.heap := e0.mod.kin.keeps fun b o e => (e0.bs b o e).1
  have hlim : s.heap.NoLimit := e0.mod.nolimit.keeps fun b o e => (e0.bs b o e).1
  have hnames : ∀ y ∈ d.ps.zip us, d.d.scope.names.lookup y.1 = some .local ∨ (d.d.scope.names.lookup y.1 = some .cell ∧ ((cellsFrom (s.heap.objs.size + 1) d.d.scope.names []).lookup y.1).isSome = true) := by
    intro y hy
    obtain ⟨n, v⟩ := y
    have hn := (List.of_mem_zip hy).1
    cases hd.sc.par n hn with
    | inl q => exact .inl q
    | inr q => exact .inr ⟨q, PySem.W.cellsFrom_some _ _ _ (.inl q)⟩
  have hdepth : A.depth < recursionLimit := by omega
  refine codeAny_call_function hdepth (hKs _ _ lk) rfl hd.sc.co hd.sc.gen rfl (PySem.W.codeRec_of hKs hcd) (hb _ _ _ _ (wpAny_newFunctionEnv_cells hd.sc.kind hnames fun env he s1 x => ?_))
  subst he
  refine ⟨hlim.keeps x.toInCall.keep, codeAny_func ?_⟩
  have I := L2H.inv_startH (CX := CX0) (P := P) (w := w) (K := G.K) (mg := mg) (base := base) (E := E0) hd.sc hpin e0 hsp.1 r x
  have hXs : XOk P w mg base k G (hotSC d (a, cls, dd)) (L2H.cxH CX0 P w G.K mg base d.N d.d.qual d.d.scope f cdv A outer s H E0 (a, oe)) := {
    eP := rfl
    ew := rfl
    eK := rfl
    em := rfl
    eb := rfl
    N := rfl
    nd := hd.sc.nd
    sc := rfl
    kind := hd.sc.kind
    own := fun x hx => ⟨own_def hx, .inl rfl⟩
    calm := fun z => nomatch (show (some (a, cls, dd) : Option (Addr × Value × Option Addr)) = none from z)
    hot := fun a' cls' d' z => by
      have z' : (some (a, cls, dd) : Option (Addr × Value × Option Addr)) = some (a', cls', d') := z
      cases z'
      exact ⟨oe, List.mem_cons_self, hz, hv⟩
    dp := by
      show A.depth + 1 + 3 * k + 5 < _
      omega
    un := by
      show A.units + 3 + 16 * k + 200 < _
      omega
    po := passes_of rfl
    top := fun z => nomatch (show false = true from z) }
  have body := pss_rd (sts := d.d.body) fun st _ => (rd_ok hG deep).s (hotSC d (a, cls, dd)) W0 _ st hXs takes0
  refine wpAny_mono (body.run [] s1 (L2.start d.N vs) H _ I hsp.2) (fun fl s' hs => ?_) (fun e s' hs => hs)
  cases fl with
  | ret u =>
    obtain ⟨v, σ', H', J, rv, q⟩ := hs
    exact ⟨v, H', J.os, J.bare, J.base, J.hok, rv, q⟩
  | next =>
    obtain ⟨σ', H', J, q⟩ := hs
    exact ⟨V.non, H', J.os, J.bare, J.base, J.hok, rfl, q⟩
  | brk =>
    obtain ⟨_, _, _, q⟩ := hs
    exact (show False from q).elim
  | cont =>
    obtain ⟨_, _, _, q⟩ := hs
    exact (show False from q).elim
theorem mem_of_lookup' {α : Type} : ∀ {l : List (Str × α)} {x : Str} {v : α}, l.lookup x = some v → (x, v) ∈ l
  | (y, u) :: r, x, v, h => by
    rw [List.lookup_cons] at h
    split at h
    · rename_i e
      cases h
      rw [beq_iff_eq.mp e]
      exact List.mem_cons_self
    · exact List.mem_cons_of_mem _ (mem_of_lookup' h)
/-- THE WHOLE: at every level every def keeps what the text reads -/
theorem lv_ok {T : Tb} (hT : TOk mg T) : ∀ n, GOk P w mg base n (gt T (lv T n))
  | 0 => {
    fn := fun x sp h => by
      obtain ⟨d, hd, e⟩ := Option.map_eq_some_iff.mp h
      subst e
      obtain ⟨ok, f, fd, hm, F⟩ := hT.defs _ (mem_of_lookup' hd)
      exact ⟨f, fd, d.ps, hm, F.kp, F.bindsN ok.bind, ⟨fun _ _ _ _ z => (show False from z).elim, fun _ _ _ _ _ _ _ _ _ _ _ _ _ z => (show False from z).elim⟩⟩
    gv := hT.gv
    free := hT.free
    exc := hT.exc
    ecl := hT.ecl
    fnH := fun a cls dd x sp h => by
      obtain ⟨d, hd, e⟩ := Option.map_eq_some_iff.mp h
      subst e
      obtain ⟨ok, f, fd, hm, F⟩ := hT.defs _ (mem_of_lookup' hd)
      exact ⟨f, fd, d.ps, hm, F.kp, F.bindsN ok.bind, ⟨fun _ _ _ _ z => (show False from z).elim, fun _ _ _ _ _ _ _ _ _ _ _ _ _ _ _ _ _ z => (show False from z).elim⟩, fun _ _ _ _ z => z⟩ }
  | n + 1 => {
    fn := fun x sp h => by
      obtain ⟨d, hd, e⟩ := Option.map_eq_some_iff.mp h
      subst e
      obtain ⟨ok, f, fd, hm, F⟩ := hT.defs _ (mem_of_lookup' hd)
      exact ⟨f, fd, d.ps, hm, F.kp, F.bindsN ok.bind, fn_ok (lv_ok hT n) ok F⟩
    gv := hT.gv
    free := hT.free
    exc := hT.exc
    ecl := hT.ecl
    fnH := fun a cls dd x sp h => by
      obtain ⟨d, hd, e⟩ := Option.map_eq_some_iff.mp h
      subst e
      obtain ⟨ok, f, fd, hm, F⟩ := hT.defs _ (mem_of_lookup' hd)
      exact ⟨f, fd, d.ps, hm, F.kp, F.bindsN ok.bind, fn_okS (lv_ok hT n) ok F a cls dd, fun _ _ _ _ z => z⟩ }
end
end RD
end
section
set_option Elab.async false
set_option maxRecDepth 100000
set_option maxHeartbeats 1000000
namespace RD
open PySem PySem.Spec PyProof.Rows L2
/-! ## the head: what the top leaves, as data -/
/-- what the heap is asked behind the top: facts by names, defs, one more question -/
def obsE (fa : List He.Fa) (fn : List He.DefD) (ex : PySem.W.Frag → Bool) (K : PySem.W.Frag) : He.AlD :=
  (((He.obsD fa fn K).1 && ex K), (He.obsD fa fn K).2)
structure SaysE (fa : List He.Fa) (fn : List He.DefD) (ex : PySem.W.Frag → Bool) (K : PySem.W.Frag) : Prop where
  d : He.SaysD fa fn K
  x : ex K = true
theorem saysE_of {fa : List He.Fa} {fn : List He.DefD} {ex : PySem.W.Frag → Bool} {K : PySem.W.Frag} (e : obsE fa fn ex K = He.valD fn) : SaysE fa fn ex K := by
  have e1 : ((He.obsD fa fn K).1 && ex K) = true := congrArg Prod.fst e
  have e2 : (He.obsD fa fn K).2 = fn.map He.DefD.val := congrArg Prod.snd e
  obtain ⟨h1, h2⟩ := Bool.and_eq_true_iff.mp e1
  exact ⟨Prod.ext h1 e2, h2⟩
def obsEG (n : Nat) (fa : List He.Fa) (fn : List He.DefD) (ex : PySem.W.Frag → Bool) (g : Addr → Option Obj) : He.AlD := obsE fa fn ex (He.frG g (He.asD g n))
def hookE (n : Nat) (fa : List He.Fa) (fn : List He.DefD) (ex : PySem.W.Frag → Bool) : PySem.W.Hook where
  α := He.AlD
  obs := fun s => obsEG n fa fn ex s.heap.get?
  val := fun _ => He.valD fn
  says := fun _ h => ∃ K : PySem.W.Frag, K.In h ∧ SaysE fa fn ex K
  of := fun _ _ e => ⟨_, He.frG_in, saysE_of e⟩
  keeps := fun _ _ _ ⟨K, hK, c⟩ k => ⟨K, PySem.W.Frag.In.keeps hK k, c⟩
theorem obsEG_eq {n : Nat} {fa : List He.Fa} {fn : List He.DefD} {ex : PySem.W.Frag → Bool} {g : Addr → Option Obj} {s : Shared} (h : ∀ a, g a = s.heap.get? a) : obsEG n fa fn ex g = (hookE n fa fn ex).obs s := by
  have e : g = s.heap.get? := funext h
  rw [e]
  rfl
/-- a program, as the reading takes it -/
structure Pg where
  defs : List (Str × Df)
  cInt : List (Str × Int)
  cStr : List (Str × Str)
  clss : List Str
  excs : List Str
  frees : List Str
def Pg.fa (g : Pg) : List He.Fa := g.defs.map (fun p => .glo p.1) ++ (g.cInt.map (fun p => .int p.1 p.2) ++ (g.cStr.map (fun p => .str p.1 p.2) ++ (g.clss.map .glo ++ (g.excs.map .exc ++ g.frees.map .free))))
def Pg.fn (g : Pg) : List He.DefD := g.defs.map (·.2.d)
def Pg.gv (g : Pg) (K : PySem.W.Frag) (x : Str) : Option V := match g.cInt.lookup x with
  | some i => some (.int i)
  | none => (match g.cStr.lookup x with
    | some z => some (.str z)
    | none => if g.clss.contains x = true then some (.ref (He.ga K x)) else none)
def Pg.tb (g : Pg) (K : PySem.W.Frag) : Tb where
  K := K
  defs := g.defs
  gv := g.gv K
  free := fun x => g.frees.contains x
  exc := fun x => if g.excs.contains x = true ∧ g.clss.contains x = true then some (He.ga K x) else none
  ecl := fun x => if g.clss.contains x = true then some (.ref (He.ga K x)) else none
structure PgOk (g : Pg) : Prop where
  defs : ∀ p ∈ g.defs, DfOk p.2 ∧ p.2.d.at_ = (p.1, none)
theorem says_fact {fa : List He.Fa} {fn : List He.DefD} {K : PySem.W.Frag} (c : He.SaysD fa fn K) {f : He.Fa} (h : f ∈ fa) : f.ok K = true := by
  have c1 : ((fa.all fun f => f.ok K) && fn.all fun d => d.ok K) = true := congrArg (fun z : He.AlD => z.1) c
  exact List.all_eq_true.mp (Bool.and_eq_true_iff.mp c1).1 f h
theorem says_def {fa : List He.Fa} {fn : List He.DefD} {K : PySem.W.Frag} (c : He.SaysD fa fn K) {d : He.DefD} (h : d ∈ fn) : ∃ fd, FunD K d.name d.qual d.params d.body d.scope (d.dvs K) (d.kws K) (He.fAd K d.at_) fd := by
  obtain ⟨i, hi⟩ := List.getElem?_of_mem h
  exact c.def_ i hi
theorem contains_mem {l : List Str} {x : Str} (h : l.contains x = true) : x ∈ l := by
  simpa using h
theorem lookup_mem {α : Type} {l : List (Str × α)} {x : Str} {v : α} (h : l.lookup x = some v) : (x, v) ∈ l := mem_of_lookup' h
theorem tok {g : Pg} (hg : PgOk g) {K : PySem.W.Frag} {h : Heap} {mg : Str → Option Value} (X : K.In h) (G : h.Ns mainGlobals mg) {ex : PySem.W.Frag → Bool} (c : SaysE g.fa g.fn ex K) : TOk mg (g.tb K) := by
  have glo : ∀ x, g.clss.contains x = true → mg x = some (.ref (He.ga K x)) := fun x hx => He.glo_ok X G (says_fact c.d (by
    unfold Pg.fa
    simp only [List.mem_append, List.mem_map]
    exact .inr (.inr (.inr (.inl ⟨x, contains_mem hx, rfl⟩)))))
  refine ⟨fun p hp => ?_, fun x v hv => ?_, fun x hx => ?_, fun x C hC => ?_, fun x c' hc => ?_⟩
  · obtain ⟨ok, at_⟩ := hg.defs p hp
    obtain ⟨fd, F⟩ := says_def c.d (d := p.2.d) (List.mem_map.mpr ⟨p, hp, rfl⟩)
    have hm : mg p.1 = some (.ref (He.ga K p.1)) := He.glo_ok X G (says_fact c.d (by
      unfold Pg.fa
      simp only [List.mem_append, List.mem_map]
      exact .inl ⟨p, hp, rfl⟩))
    refine ⟨ok, He.ga K p.1, fd, hm, ?_⟩
    have e1 : p.2.d.dvs K = [] := by unfold He.DefD.dvs; rw [ok.dfl]; rfl
    have e2 : p.2.d.kws K = [] := by unfold He.DefD.kws; rw [ok.kwd]; rfl
    rw [e1, e2, at_] at F
    exact F
  · have hv' : g.gv K x = some v := hv
    unfold Pg.gv at hv'
    split at hv'
    · rename_i i e
      cases hv'
      obtain ⟨t, q⟩ := He.int_ok X G (says_fact c.d (f := .int x i) (by
        unfold Pg.fa
        simp only [List.mem_append, List.mem_map]
        exact .inr (.inl ⟨(x, i), lookup_mem e, rfl⟩)))
      exact ⟨_, q, t, rfl⟩
    · split at hv'
      · rename_i z e
        cases hv'
        obtain ⟨t, q⟩ := He.str_ok X G (says_fact c.d (f := .str x z) (by
          unfold Pg.fa
          simp only [List.mem_append, List.mem_map]
          exact .inr (.inr (.inl ⟨(x, z), lookup_mem e, rfl⟩))))
        exact ⟨_, q, t, rfl⟩
      · split at hv'
        · rename_i hx
          cases hv'
          exact ⟨_, glo x hx, rfl⟩
        · cases hv'
  · exact He.free_ok X G (says_fact c.d (f := .free x) (by
      unfold Pg.fa
      simp only [List.mem_append, List.mem_map]
      exact .inr (.inr (.inr (.inr (.inr ⟨x, contains_mem hx, rfl⟩))))))
  · have hC' : (if g.excs.contains x = true ∧ g.clss.contains x = true then some (He.ga K x) else none) = some C := hC
    split at hC'
    · rename_i hx
      cases hC'
      have q := He.exc_ok (says_fact c.d (f := .exc x) (by
        unfold Pg.fa
        simp only [List.mem_append, List.mem_map]
        exact .inr (.inr (.inr (.inr (.inl ⟨x, contains_mem hx.1, rfl⟩))))))
      exact ⟨glo x hx.2, q.1, q.2.1, q.2.2.1, q.2.2.2⟩
    · cases hC'
  · have hc' : (if g.clss.contains x = true then some (Value.ref (He.ga K x)) else none) = some c' := hc
    split at hc'
    · rename_i hx
      cases hc'
      exact glo x hx
    · cases hc'
end RD
end
section
set_option Elab.async false
set_option maxRecDepth 100000
set_option maxHeartbeats 4000000
namespace K23
open PySem PySem.Spec PyProof.Rows L2 RD
/-! ## the program of the row: defs by their places -/
def top (i : Nat) : Stmt := PySem.Challenge.pw_patchbough_k23_change.main.body.getD i (.Pass ⟨0, 0, 0, 0⟩)
def d_copy_of : Df := ⟨⟨("copy_of", none), "copy_of", "copy_of", defArgs (top 1), defBody (top 1), defScope (top 1), [], []⟩, ["doc", "cell", "made", "name"], ["doc"]⟩
theorem d_copy_of_ok : DfOk d_copy_of := ⟨⟨rfl, rfl, rfl, by decide +kernel, rfl, by decide +kernel, by decide +kernel⟩, fun _ _ _ _ _ _ us hl => match us, hl with | [_], _ => rfl, rfl, rfl⟩
def d_goes_into : Df := ⟨⟨("goes_into", none), "goes_into", "goes_into", defArgs (top 12), defBody (top 12), defScope (top 12), [], []⟩, ["doc", "step"], ["doc", "step"]⟩
theorem d_goes_into_ok : DfOk d_goes_into := ⟨⟨rfl, rfl, rfl, by decide +kernel, rfl, by decide +kernel, by decide +kernel⟩, fun _ _ _ _ _ _ us hl => match us, hl with | [_, _], _ => rfl, rfl, rfl⟩
def d_has_part : Df := ⟨⟨("has_part", none), "has_part", "has_part", defArgs (top 13), defBody (top 13), defScope (top 13), [], []⟩, ["doc", "path", "step"], ["doc", "path"]⟩
theorem d_has_part_ok : DfOk d_has_part := ⟨⟨rfl, rfl, rfl, by decide +kernel, rfl, by decide +kernel, by decide +kernel⟩, fun _ _ _ _ _ _ us hl => match us, hl with | [_, _], _ => rfl, rfl, rfl⟩
def d_found_at : Df := ⟨⟨("found_at", none), "found_at", "found_at", defArgs (top 14), defBody (top 14), defScope (top 14), [], []⟩, ["doc", "path", "step"], ["doc", "path"]⟩
theorem d_found_at_ok : DfOk d_found_at := ⟨⟨rfl, rfl, rfl, by decide +kernel, rfl, by decide +kernel, by decide +kernel⟩, fun _ _ _ _ _ _ us hl => match us, hl with | [_, _], _ => rfl, rfl, rfl⟩
def d_holder_at : Df := ⟨⟨("holder_at", none), "holder_at", "holder_at", defArgs (top 16), defBody (top 16), defScope (top 16), [], []⟩, ["doc", "path"], ["doc", "path"]⟩
theorem d_holder_at_ok : DfOk d_holder_at := ⟨⟨rfl, rfl, rfl, by decide +kernel, rfl, by decide +kernel, by decide +kernel⟩, fun _ _ _ _ _ _ us hl => match us, hl with | [_, _], _ => rfl, rfl, rfl⟩
def d_changed_at : Df := ⟨⟨("changed_at", none), "changed_at", "changed_at", defArgs (top 17), defBody (top 17), defScope (top 17), [], []⟩, ["doc", "path", "value", "made", "holder"], ["doc", "path", "value"]⟩
theorem d_changed_at_ok : DfOk d_changed_at := ⟨⟨rfl, rfl, rfl, by decide +kernel, rfl, by decide +kernel, by decide +kernel⟩, fun _ _ _ _ _ _ us hl => match us, hl with | [_, _, _], _ => rfl, rfl, rfl⟩
def d_law_cell : Df := ⟨⟨("_law_cell", none), "_law_cell", "_law_cell", defArgs (top 19), defBody (top 19), defScope (top 19), [], []⟩, ["script", "k"], ["script", "k"]⟩
theorem d_law_cell_ok : DfOk d_law_cell := ⟨⟨rfl, rfl, rfl, by decide +kernel, rfl, by decide +kernel, by decide +kernel⟩, fun _ _ _ _ _ _ us hl => match us, hl with | [_, _], _ => rfl, rfl, rfl⟩
def d_law_mix : Df := ⟨⟨("_law_mix", none), "_law_mix", "_law_mix", defArgs (top 20), defBody (top 20), defScope (top 20), [], []⟩, ["cell", "k", "number", "j"], ["cell", "k"]⟩
theorem d_law_mix_ok : DfOk d_law_mix := ⟨⟨rfl, rfl, rfl, by decide +kernel, rfl, by decide +kernel, by decide +kernel⟩, fun _ _ _ _ _ _ us hl => match us, hl with | [_, _], _ => rfl, rfl, rfl⟩
def d_law_names : Df := ⟨⟨("_law_names", none), "_law_names", "_law_names", defArgs (top 21), defBody (top 21), defScope (top 21), [], []⟩, ["cell", "letters", "pairs", "k", "word", "pair", "size", "at", "more", "names", "one"], ["cell"]⟩
theorem d_law_names_ok : DfOk d_law_names := ⟨⟨rfl, rfl, rfl, by decide +kernel, rfl, by decide +kernel, by decide +kernel⟩, fun _ _ _ _ _ _ us hl => match us, hl with | [_], _ => rfl, rfl, rfl⟩
def d_law_leaf : Df := ⟨⟨("_law_leaf", none), "_law_leaf", "_law_leaf", defArgs (top 22), defBody (top 22), defScope (top 22), [], []⟩, ["cell", "k", "number", "way"], ["cell", "k"]⟩
theorem d_law_leaf_ok : DfOk d_law_leaf := ⟨⟨rfl, rfl, rfl, by decide +kernel, rfl, by decide +kernel, by decide +kernel⟩, fun _ _ _ _ _ _ us hl => match us, hl with | [_, _], _ => rfl, rfl, rfl⟩
def d_law_part : Df := ⟨⟨("_law_part", none), "_law_part", "_law_part", defArgs (top 23), defBody (top 23), defScope (top 23), [], []⟩, ["cell", "deep", "most", "way"], ["cell", "deep", "most"]⟩
theorem d_law_part_ok : DfOk d_law_part := ⟨⟨rfl, rfl, rfl, by decide +kernel, rfl, by decide +kernel, by decide +kernel⟩, fun _ _ _ _ _ _ us hl => match us, hl with | [_, _, _], _ => rfl, rfl, rfl⟩
def d_law_laid : Df := ⟨⟨("_law_laid", none), "_law_laid", "_law_laid", defArgs (top 24), defBody (top 24), defScope (top 24), [], []⟩, ["holder", "part", "names", "number", "left", "name"], ["holder", "part", "names", "number"]⟩
theorem d_law_laid_ok : DfOk d_law_laid := ⟨⟨rfl, rfl, rfl, by decide +kernel, rfl, by decide +kernel, by decide +kernel⟩, fun _ _ _ _ _ _ us hl => match us, hl with | [_, _, _, _], _ => rfl, rfl, rfl⟩
def d_law_doc : Df := ⟨⟨("_law_doc", none), "_law_doc", "_law_doc", defArgs (top 25), defBody (top 25), defScope (top 25), [], []⟩, ["script", "start", "names", "first", "most", "doc", "holders", "many", "k", "cell", "holder", "deep", "part"], ["script", "start", "names"]⟩
theorem d_law_doc_ok : DfOk d_law_doc := ⟨⟨rfl, rfl, rfl, by decide +kernel, rfl, by decide +kernel, by decide +kernel⟩, fun _ _ _ _ _ _ us hl => match us, hl with | [_, _, _], _ => rfl, rfl, rfl⟩
def d_law_copy : Df := ⟨⟨("_law_copy", none), "_law_copy", "_law_copy", defArgs (top 26), defBody (top 26), defScope (top 26), [], []⟩, ["doc", "one", "name"], ["doc"]⟩
theorem d_law_copy_ok : DfOk d_law_copy := ⟨⟨rfl, rfl, rfl, by decide +kernel, rfl, by decide +kernel, by decide +kernel⟩, fun _ _ _ _ _ _ us hl => match us, hl with | [_], _ => rfl, rfl, rfl⟩
def d_law_alike : Df := ⟨⟨("_law_alike", none), "_law_alike", "_law_alike", defArgs (top 27), defBody (top 27), defScope (top 27), [], []⟩, ["one", "other", "k", "name"], ["one", "other"]⟩
theorem d_law_alike_ok : DfOk d_law_alike := ⟨⟨rfl, rfl, rfl, by decide +kernel, rfl, by decide +kernel, by decide +kernel⟩, fun _ _ _ _ _ _ us hl => match us, hl with | [_, _], _ => rfl, rfl, rfl⟩
def d_law_paths : Df := ⟨⟨("_law_paths", none), "_law_paths", "_law_paths", defArgs (top 28), defBody (top 28), defScope (top 28), [], []⟩, ["doc", "ahead", "found", "k", "name"], ["doc", "ahead"]⟩
theorem d_law_paths_ok : DfOk d_law_paths := ⟨⟨rfl, rfl, rfl, by decide +kernel, rfl, by decide +kernel, by decide +kernel⟩, fun _ _ _ _ _ _ us hl => match us, hl with | [_, _], _ => rfl, rfl, rfl⟩
def d_law_at : Df := ⟨⟨("_law_at", none), "_law_at", "_law_at", defArgs (top 29), defBody (top 29), defScope (top 29), [], []⟩, ["doc", "path", "step"], ["doc", "path"]⟩
theorem d_law_at_ok : DfOk d_law_at := ⟨⟨rfl, rfl, rfl, by decide +kernel, rfl, by decide +kernel, by decide +kernel⟩, fun _ _ _ _ _ _ us hl => match us, hl with | [_, _], _ => rfl, rfl, rfl⟩
def d_law_stands : Df := ⟨⟨("_law_stands", none), "_law_stands", "_law_stands", defArgs (top 30), defBody (top 30), defScope (top 30), [], []⟩, ["doc", "path", "step"], ["doc", "path"]⟩
theorem d_law_stands_ok : DfOk d_law_stands := ⟨⟨rfl, rfl, rfl, by decide +kernel, rfl, by decide +kernel, by decide +kernel⟩, fun _ _ _ _ _ _ us hl => match us, hl with | [_, _], _ => rfl, rfl, rfl⟩
def d_law_value : Df := ⟨⟨("_law_value", none), "_law_value", "_law_value", defArgs (top 31), defBody (top 31), defScope (top 31), [], []⟩, ["cell", "names", "one", "some"], ["cell", "names"]⟩
theorem d_law_value_ok : DfOk d_law_value := ⟨⟨rfl, rfl, rfl, by decide +kernel, rfl, by decide +kernel, by decide +kernel⟩, fun _ _ _ _ _ _ us hl => match us, hl with | [_, _], _ => rfl, rfl, rfl⟩
def d_law_changed : Df := ⟨⟨("_law_changed", none), "_law_changed", "_law_changed", defArgs (top 32), defBody (top 32), defScope (top 32), [], []⟩, ["doc", "path", "value", "told", "row"], ["doc", "path", "value"]⟩
theorem d_law_changed_ok : DfOk d_law_changed := ⟨⟨rfl, rfl, rfl, by decide +kernel, rfl, by decide +kernel, by decide +kernel⟩, fun _ _ _ _ _ _ us hl => match us, hl with | [_, _, _], _ => rfl, rfl, rfl⟩
def d_law_no_part : Df := ⟨⟨("_law_no_part", none), "_law_no_part", "_law_no_part", defArgs (top 33), defBody (top 33), defScope (top 33), [], []⟩, ["e", "some"], ["e"]⟩
theorem d_law_no_part_ok : DfOk d_law_no_part := ⟨⟨rfl, rfl, rfl, by decide +kernel, rfl, by decide +kernel, by decide +kernel⟩, fun _ _ _ _ _ _ us hl => match us, hl with | [_], _ => rfl, rfl, rfl⟩
def d_law_more : Df := ⟨⟨("_law_more", none), "_law_more", "_law_more", defArgs (top 34), defBody (top 34), defScope (top 34), [], []⟩, ["doc", "path", "names", "cell", "part", "many", "number", "name", "far", "step"], ["doc", "path", "names", "cell"]⟩
theorem d_law_more_ok : DfOk d_law_more := ⟨⟨rfl, rfl, rfl, by decide +kernel, rfl, by decide +kernel, by decide +kernel⟩, fun _ _ _ _ _ _ us hl => match us, hl with | [_, _, _, _], _ => rfl, rfl, rfl⟩
def d_law_spoil : Df := ⟨⟨("_law_spoil", none), "_law_spoil", "_law_spoil", defArgs (top 35), defBody (top 35), defScope (top 35), [], []⟩, ["doc", "one", "name"], ["doc"]⟩
theorem d_law_spoil_ok : DfOk d_law_spoil := ⟨⟨rfl, rfl, rfl, by decide +kernel, rfl, by decide +kernel, by decide +kernel⟩, fun _ _ _ _ _ _ us hl => match us, hl with | [_], _ => rfl, rfl, rfl⟩
def d_law_asked : Df := ⟨⟨("_law_asked", none), "_law_asked", "_law_asked", defArgs (top 36), defBody (top 36), defScope (top 36), [], []⟩, ["doc", "path", "value", "found", "e"], ["doc", "path", "value"]⟩
theorem d_law_asked_ok : DfOk d_law_asked := ⟨⟨rfl, rfl, rfl, by decide +kernel, rfl, by decide +kernel, by decide +kernel⟩, fun _ _ _ _ _ _ us hl => match us, hl with | [_, _, _], _ => rfl, rfl, rfl⟩
def d_law_right : Df := ⟨⟨("_law_right", none), "_law_right", "_law_right", defArgs (top 37), defBody (top 37), defScope (top 37), [], []⟩, ["doc", "path", "value", "due", "kept", "k", "found"], ["doc", "path", "value"]⟩
theorem d_law_right_ok : DfOk d_law_right := ⟨⟨rfl, rfl, rfl, by decide +kernel, rfl, by decide +kernel, by decide +kernel⟩, fun _ _ _ _ _ _ us hl => match us, hl with | [_, _, _], _ => rfl, rfl, rfl⟩
def d_law : Df := ⟨⟨("law", none), "law", "law", defArgs (top 38), defBody (top 38), defScope (top 38), [], []⟩, ["script", "names", "doc", "many", "cell", "paths", "value", "k"], ["script"]⟩
theorem d_law_ok : DfOk d_law := ⟨⟨rfl, rfl, rfl, by decide +kernel, rfl, by decide +kernel, by decide +kernel⟩, fun _ _ _ _ _ _ us hl => match us, hl with | [_], _ => rfl, rfl, rfl⟩
def pg : Pg where
  defs := [("copy_of", d_copy_of), ("goes_into", d_goes_into), ("has_part", d_has_part), ("found_at", d_found_at), ("holder_at", d_holder_at), ("changed_at", d_changed_at), ("_law_cell", d_law_cell), ("_law_mix", d_law_mix), ("_law_names", d_law_names), ("_law_leaf", d_law_leaf), ("_law_part", d_law_part), ("_law_laid", d_law_laid), ("_law_doc", d_law_doc), ("_law_copy", d_law_copy), ("_law_alike", d_law_alike), ("_law_paths", d_law_paths), ("_law_at", d_law_at), ("_law_stands", d_law_stands), ("_law_value", d_law_value), ("_law_changed", d_law_changed), ("_law_no_part", d_law_no_part), ("_law_more", d_law_more), ("_law_spoil", d_law_spoil), ("_law_asked", d_law_asked), ("_law_right", d_law_right), ("law", d_law)]
  cInt := []
  cStr := []
  clss := ["BoughError", "NoPart", "NoRow", "NoFit", "NoPatch", "Clash", "NoText", "NoDeed"]
  excs := ["NoPart"]
  frees := ["ValueError", "all", "bool", "dict", "int", "isinstance", "len", "list", "max", "min", "range", "sorted", "str", "tuple"]
theorem pg_ok : PgOk pg := ⟨by
  intro p hp
  unfold pg at hp
  simp only [List.mem_cons, List.not_mem_nil, or_false] at hp
  rcases hp with rfl | rfl | rfl | rfl | rfl | rfl | rfl | rfl | rfl | rfl | rfl | rfl | rfl | rfl | rfl | rfl | rfl | rfl | rfl | rfl | rfl | rfl | rfl | rfl | rfl | rfl
  · exact ⟨d_copy_of_ok, rfl⟩
  · exact ⟨d_goes_into_ok, rfl⟩
  · exact ⟨d_has_part_ok, rfl⟩
  · exact ⟨d_found_at_ok, rfl⟩
  · exact ⟨d_holder_at_ok, rfl⟩
  · exact ⟨d_changed_at_ok, rfl⟩
  · exact ⟨d_law_cell_ok, rfl⟩
  · exact ⟨d_law_mix_ok, rfl⟩
  · exact ⟨d_law_names_ok, rfl⟩
  · exact ⟨d_law_leaf_ok, rfl⟩
  · exact ⟨d_law_part_ok, rfl⟩
  · exact ⟨d_law_laid_ok, rfl⟩
  · exact ⟨d_law_doc_ok, rfl⟩
  · exact ⟨d_law_copy_ok, rfl⟩
  · exact ⟨d_law_alike_ok, rfl⟩
  · exact ⟨d_law_paths_ok, rfl⟩
  · exact ⟨d_law_at_ok, rfl⟩
  · exact ⟨d_law_stands_ok, rfl⟩
  · exact ⟨d_law_value_ok, rfl⟩
  · exact ⟨d_law_changed_ok, rfl⟩
  · exact ⟨d_law_no_part_ok, rfl⟩
  · exact ⟨d_law_more_ok, rfl⟩
  · exact ⟨d_law_spoil_ok, rfl⟩
  · exact ⟨d_law_asked_ok, rfl⟩
  · exact ⟨d_law_right_ok, rfl⟩
  · exact ⟨d_law_ok, rfl⟩
  ⟩
-- law at 38; statements 39
end K23
end
section
set_option Elab.async false
set_option maxRecDepth 100000
set_option maxHeartbeats 1000000
namespace RD
open PySem PySem.Spec PyProof.Rows L2
abbrev rLenA : List V → Hp → VK → Prop := fun vs H Q => ∃ x n, vs = [x] ∧ lenA H x = some n ∧ Q (.int (n : Nat)) H
abbrev rSrtA : List V → Hp → VK → Prop := fun vs H Q => ∃ x ss, vs = [x] ∧ srtA H x = some ss ∧ ss.length < 64 ∧
    ∀ (ys : List Str) (p : Addr), ys.Perm ss → sortedS ys = true → H p = none → Q (.ref p) (upd H p (.lst (ys.map V.str)))
def lcA (t : TE) : TE := fun σ H Q => t σ H Q ∨ tLockE t σ H Q
def forA (t : TS) : TS := fun D σ H => t D σ H ∨ tLock t D σ H
/-! ## documents -/
inductive Doc where
  | num (i : Int)
  | txt (s : Str)
  | row (ds : List Doc)
  | tab (ks : List (Str × Doc))
mutual
def Doc.depth : Doc → Nat
  | .num _ => 0
  | .txt _ => 0
  | .row ds => depthL ds + 1
  | .tab ks => depthK ks + 1
def depthL : List Doc → Nat
  | [] => 0
  | d :: r => max d.depth (depthL r)
def depthK : List (Str × Doc) → Nat
  | [] => 0
  | (_, d) :: r => max d.depth (depthK r)
end
theorem depthL_mem : ∀ {ds : List Doc} {d : Doc}, d ∈ ds → d.depth ≤ depthL ds
  | e :: r, d, h => by
    rw [depthL]
    rcases List.mem_cons.mp h with rfl | h
    · exact Nat.le_max_left _ _
    · exact Nat.le_trans (depthL_mem h) (Nat.le_max_right _ _)
theorem depthK_mem : ∀ {ds : List (Str × Doc)} {p : Str × Doc}, p ∈ ds → p.2.depth ≤ depthK ds
  | (k, e) :: r, p, h => by
    rw [depthK]
    rcases List.mem_cons.mp h with rfl | h
    · exact Nat.le_max_left _ _
    · exact Nat.le_trans (depthK_mem h) (Nat.le_max_right _ _)
mutual
/-- how wide it may be, and that names differ -/
def Doc.wf : Doc → Prop
  | .num _ => True
  | .txt _ => True
  | .row ds => ds.length ≤ 1000 ∧ wfL ds
  | .tab ks => ks.length ≤ 60 ∧ (ks.map (·.1)).Nodup ∧ wfK ks
def wfL : List Doc → Prop
  | [] => True
  | d :: r => d.wf ∧ wfL r
def wfK : List (Str × Doc) → Prop
  | [] => True
  | (_, d) :: r => d.wf ∧ wfK r
end
theorem wfL_mem : ∀ {ds : List Doc} {d : Doc}, wfL ds → d ∈ ds → d.wf
  | e :: r, d, h, hm => by
    rw [wfL] at h
    rcases List.mem_cons.mp hm with rfl | hm
    · exact h.1
    · exact wfL_mem h.2 hm
theorem wfK_mem : ∀ {ds : List (Str × Doc)} {p : Str × Doc}, wfK ds → p ∈ ds → p.2.wf
  | (k, e) :: r, p, h, hm => by
    rw [wfK] at h
    rcases List.mem_cons.mp hm with rfl | hm
    · exact h.1
    · exact wfK_mem h.2 hm
mutual
/-- the value v stands for the document, in the heap as it is read -/
inductive Rep (H : Hp) : V → Doc → Prop
  | num (i : Int) : Rep H (.int i) (.num i)
  | txt (s : Str) : Rep H (.str s) (.txt s)
  | row {a : Addr} {vs : List V} {ds : List Doc} : vw H a = some (.lst vs) → RepL H vs ds → Rep H (.ref a) (.row ds)
  | tab {a : Addr} {kvs : List (Key × V)} {ks : List (Str × Doc)} : vw H a = some (.dK kvs) → RepK H kvs ks → Rep H (.ref a) (.tab ks)
inductive RepL (H : Hp) : List V → List Doc → Prop
  | nil : RepL H [] []
  | cons {v : V} {vs : List V} {d : Doc} {ds : List Doc} : Rep H v d → RepL H vs ds → RepL H (v :: vs) (d :: ds)
inductive RepK (H : Hp) : List (Key × V) → List (Str × Doc) → Prop
  | nil : RepK H [] []
  | cons {k : Str} {v : V} {kvs : List (Key × V)} {d : Doc} {ks : List (Str × Doc)} : Rep H v d → RepK H kvs ks → RepK H ((.inr k, v) :: kvs) ((k, d) :: ks)
end
mutual
/-- .. and its rows and tables stand at these places, each at one alone -/
inductive Own (H : Hp) : V → Doc → List Addr → Prop
  | num (i : Int) : Own H (.int i) (.num i) []
  | txt (s : Str) : Own H (.str s) (.txt s) []
  | row {a : Addr} {vs : List V} {ds : List Doc} {fp : List Addr} : H a = some (.lst vs) → OwnL H vs ds fp → a ∉ fp → Own H (.ref a) (.row ds) (a :: fp)
  | tab {a : Addr} {kvs : List (Key × V)} {ks : List (Str × Doc)} {fp : List Addr} : H a = some (.dK kvs) → OwnK H kvs ks fp → a ∉ fp → Own H (.ref a) (.tab ks) (a :: fp)
inductive OwnL (H : Hp) : List V → List Doc → List Addr → Prop
  | nil : OwnL H [] [] []
  | cons {v : V} {vs : List V} {d : Doc} {ds : List Doc} {fp fps : List Addr} : Own H v d fp → OwnL H vs ds fps → (∀ a ∈ fp, a ∉ fps) → OwnL H (v :: vs) (d :: ds) (fp ++ fps)
inductive OwnK (H : Hp) : List (Key × V) → List (Str × Doc) → List Addr → Prop
  | nil : OwnK H [] [] []
  | cons {k : Str} {v : V} {kvs : List (Key × V)} {d : Doc} {ks : List (Str × Doc)} {fp fps : List Addr} : Own H v d fp → OwnK H kvs ks fps → (∀ a ∈ fp, a ∉ fps) → OwnK H ((.inr k, v) :: kvs) ((k, d) :: ks) (fp ++ fps)
end
/-! ### what is read stays -/
mutual
theorem Rep.stay {H H' : Hp} (s : ∀ a o, vw H a = some o → vw H' a = some o) : ∀ {v : V} {d : Doc}, Rep H v d → Rep H' v d
  | _, _, .num i => .num i
  | _, _, .txt z => .txt z
  | _, _, .row h r => .row (s _ _ h) (RepL.stay s r)
  | _, _, .tab h r => .tab (s _ _ h) (RepK.stay s r)
theorem RepL.stay {H H' : Hp} (s : ∀ a o, vw H a = some o → vw H' a = some o) : ∀ {v : List V} {d : List Doc}, RepL H v d → RepL H' v d
  | _, _, .nil => .nil
  | _, _, .cons h r => .cons (Rep.stay s h) (RepL.stay s r)
theorem RepK.stay {H H' : Hp} (s : ∀ a o, vw H a = some o → vw H' a = some o) : ∀ {v : List (Key × V)} {d : List (Str × Doc)}, RepK H v d → RepK H' v d
  | _, _, .nil => .nil
  | _, _, .cons h r => .cons (Rep.stay s h) (RepK.stay s r)
end
theorem Rep.same {H H' : Hp} (s : Same H H') {v : V} {d : Doc} (r : Rep H v d) : Rep H' v d := r.stay fun _ _ h => same_vw s h
theorem RepL.same {H H' : Hp} (s : Same H H') {v : List V} {d : List Doc} (r : RepL H v d) : RepL H' v d := r.stay fun _ _ h => same_vw s h
theorem RepK.same {H H' : Hp} (s : Same H H') {v : List (Key × V)} {d : List (Str × Doc)} (r : RepK H v d) : RepK H' v d := r.stay fun _ _ h => same_vw s h
mutual
theorem Own.stay {H H' : Hp} : ∀ {v : V} {d : Doc} {fp : List Addr}, Own H v d fp → (∀ a ∈ fp, H' a = H a) → Own H' v d fp
  | _, _, _, .num i, _ => .num i
  | _, _, _, .txt z, _ => .txt z
  | _, _, _, .row h r n, s => .row ((s _ List.mem_cons_self).trans h) (OwnL.stay r fun a m => s a (List.mem_cons_of_mem _ m)) n
  | _, _, _, .tab h r n, s => .tab ((s _ List.mem_cons_self).trans h) (OwnK.stay r fun a m => s a (List.mem_cons_of_mem _ m)) n
theorem OwnL.stay {H H' : Hp} : ∀ {v : List V} {d : List Doc} {fp : List Addr}, OwnL H v d fp → (∀ a ∈ fp, H' a = H a) → OwnL H' v d fp
  | _, _, _, .nil, _ => .nil
  | _, _, _, .cons h r n, s => .cons (Own.stay h fun a m => s a (List.mem_append_left _ m)) (OwnL.stay r fun a m => s a (List.mem_append_right _ m)) n
theorem OwnK.stay {H H' : Hp} : ∀ {v : List (Key × V)} {d : List (Str × Doc)} {fp : List Addr}, OwnK H v d fp → (∀ a ∈ fp, H' a = H a) → OwnK H' v d fp
  | _, _, _, .nil, _ => .nil
  | _, _, _, .cons h r n, s => .cons (Own.stay h fun a m => s a (List.mem_append_left _ m)) (OwnK.stay r fun a m => s a (List.mem_append_right _ m)) n
end
mutual
theorem Own.there {H : Hp} : ∀ {v : V} {d : Doc} {fp : List Addr}, Own H v d fp → ∀ a ∈ fp, ∃ o, H a = some o
  | _, _, _, .num _, _, m => by cases m
  | _, _, _, .txt _, _, m => by cases m
  | _, _, _, .row h r _, a, m => by
    rcases List.mem_cons.mp m with rfl | m
    · exact ⟨_, h⟩
    · exact OwnL.there r a m
  | _, _, _, .tab h r _, a, m => by
    rcases List.mem_cons.mp m with rfl | m
    · exact ⟨_, h⟩
    · exact OwnK.there r a m
theorem OwnL.there {H : Hp} : ∀ {v : List V} {d : List Doc} {fp : List Addr}, OwnL H v d fp → ∀ a ∈ fp, ∃ o, H a = some o
  | _, _, _, .nil, _, m => by cases m
  | _, _, _, .cons h r _, a, m => by
    rcases List.mem_append.mp m with m | m
    · exact Own.there h a m
    · exact OwnL.there r a m
theorem OwnK.there {H : Hp} : ∀ {v : List (Key × V)} {d : List (Str × Doc)} {fp : List Addr}, OwnK H v d fp → ∀ a ∈ fp, ∃ o, H a = some o
  | _, _, _, .nil, _, m => by cases m
  | _, _, _, .cons h r _, a, m => by
    rcases List.mem_append.mp m with m | m
    · exact Own.there h a m
    · exact OwnK.there r a m
end
mutual
theorem Own.rep {H : Hp} : ∀ {v : V} {d : Doc} {fp : List Addr}, Own H v d fp → Rep H v d
  | _, _, _, .num i => .num i
  | _, _, _, .txt z => .txt z
  | _, _, _, .row h r _ => .row (vw_lst h) (OwnL.rep r)
  | _, _, _, .tab h r _ => .tab (vw_dK h) (OwnK.rep r)
theorem OwnL.rep {H : Hp} : ∀ {v : List V} {d : List Doc} {fp : List Addr}, OwnL H v d fp → RepL H v d
  | _, _, _, .nil => .nil
  | _, _, _, .cons h r _ => .cons (Own.rep h) (OwnL.rep r)
theorem OwnK.rep {H : Hp} : ∀ {v : List (Key × V)} {d : List (Str × Doc)} {fp : List Addr}, OwnK H v d fp → RepK H v d
  | _, _, _, .nil => .nil
  | _, _, _, .cons h r _ => .cons (Own.rep h) (OwnK.rep r)
end
theorem Own.same {H H' : Hp} {v : V} {d : Doc} {fp : List Addr} (o : Own H v d fp) (s : Same H H') : Own H' v d fp := o.stay fun a m => by
  obtain ⟨u, e⟩ := o.there a m
  rw [e, s a u e]
theorem OwnL.same {H H' : Hp} {v : List V} {d : List Doc} {fp : List Addr} (o : OwnL H v d fp) (s : Same H H') : OwnL H' v d fp := o.stay fun a m => by
  obtain ⟨u, e⟩ := o.there a m
  rw [e, s a u e]
theorem OwnK.same {H H' : Hp} {v : List (Key × V)} {d : List (Str × Doc)} {fp : List Addr} (o : OwnK H v d fp) (s : Same H H') : OwnK H' v d fp := o.stay fun a m => by
  obtain ⟨u, e⟩ := o.there a m
  rw [e, s a u e]
theorem OwnL.snoc {H : Hp} {v : V} {d : Doc} {fp : List Addr} (h : Own H v d fp) : ∀ {vs : List V} {ds : List Doc} {fps : List Addr}, OwnL H vs ds fps → (∀ a ∈ fp, a ∉ fps) → OwnL H (vs ++ [v]) (ds ++ [d]) (fps ++ fp)
  | _, _, _, .nil, _ => by
    have q := OwnL.cons h .nil (fun _ _ => List.not_mem_nil)
    rw [List.append_nil] at q
    exact q
  | _, _, _, .cons h1 r n, s => by
    have ih := OwnL.snoc h r fun a m z => s a m (List.mem_append_right _ z)
    rw [List.append_assoc]
    refine .cons h1 ih fun a m z => ?_
    rcases List.mem_append.mp z with z | z
    · exact n a m z
    · exact s a z (List.mem_append_left _ m)
theorem OwnK.snoc {H : Hp} {k : Str} {v : V} {d : Doc} {fp : List Addr} (h : Own H v d fp) : ∀ {vs : List (Key × V)} {ds : List (Str × Doc)} {fps : List Addr}, OwnK H vs ds fps → (∀ a ∈ fp, a ∉ fps) → OwnK H (vs ++ [(.inr k, v)]) (ds ++ [(k, d)]) (fps ++ fp)
  | _, _, _, .nil, _ => by
    have q := OwnK.cons (k := k) h .nil (fun _ _ => List.not_mem_nil)
    rw [List.append_nil] at q
    exact q
  | _, _, _, .cons h1 r n, s => by
    have ih := OwnK.snoc (k := k) h r fun a m z => s a m (List.mem_append_right _ z)
    rw [List.append_assoc]
    refine .cons h1 ih fun a m z => ?_
    rcases List.mem_append.mp z with z | z
    · exact n a m z
    · exact s a z (List.mem_append_left _ m)
/-! ### by places -/
theorem RepL.length {H : Hp} : ∀ {vs : List V} {ds : List Doc}, RepL H vs ds → vs.length = ds.length
  | _, _, .nil => rfl
  | _, _, .cons _ r => congrArg (· + 1) r.length
theorem RepL.get {H : Hp} : ∀ {vs : List V} {ds : List Doc} {i : Nat} {v : V}, RepL H vs ds → vs[i]? = some v → ∃ d, ds[i]? = some d ∧ Rep H v d
  | _, _, 0, _, .cons h _, e => by
    cases e
    exact ⟨_, rfl, h⟩
  | _, _, i + 1, _, .cons _ r, e => RepL.get (i := i) r e
theorem RepL.get' {H : Hp} : ∀ {vs : List V} {ds : List Doc} {i : Nat} {d : Doc}, RepL H vs ds → ds[i]? = some d → ∃ v, vs[i]? = some v ∧ Rep H v d
  | _, _, 0, _, .cons h _, e => by
    cases e
    exact ⟨_, rfl, h⟩
  | _, _, i + 1, _, .cons _ r, e => RepL.get' (i := i) r e
theorem RepK.length {H : Hp} : ∀ {vs : List (Key × V)} {ds : List (Str × Doc)}, RepK H vs ds → vs.length = ds.length
  | _, _, .nil => rfl
  | _, _, .cons _ r => congrArg (· + 1) r.length
theorem RepK.get {H : Hp} : ∀ {vs : List (Key × V)} {ds : List (Str × Doc)} {i : Nat} {p : Key × V}, RepK H vs ds → vs[i]? = some p → ∃ k d, p.1 = .inr k ∧ ds[i]? = some (k, d) ∧ Rep H p.2 d
  | _, _, 0, _, .cons h _, e => by
    cases e
    exact ⟨_, _, rfl, rfl, h⟩
  | _, _, i + 1, _, .cons _ r, e => RepK.get (i := i) r e
theorem RepK.keys {H : Hp} : ∀ {vs : List (Key × V)} {ds : List (Str × Doc)}, RepK H vs ds → vs.map (·.1) = ds.map (fun p => .inr p.1)
  | _, _, .nil => rfl
  | _, _, .cons _ r => by
    simp only [List.map_cons]
    rw [r.keys]
/-- a document's part by a name -/
def lkK (ks : List (Str × Doc)) (k : Str) : Option Doc := (ks.find? fun p => decide (p.1 = k)).map (·.2)
theorem RepK.val {H : Hp} {k : Str} : ∀ {vs : List (Key × V)} {ds : List (Str × Doc)}, RepK H vs ds →
    (valV vs (.inr k : Key) = none ∧ lkK ds k = none) ∨ ∃ v d, valV vs (.inr k : Key) = some v ∧ lkK ds k = some d ∧ Rep H v d
  | _, _, .nil => .inl ⟨rfl, rfl⟩
  | _, _, .cons (k := k') (v := v) (kvs := kvs) (d := d) (ks := ks) h r => by
    by_cases e : k' = k
    · subst e
      exact .inr ⟨v, d, valV_pos rfl, by simp [lkK], h⟩
    · have e1 : valV ((Sum.inr k', v) :: kvs) (Sum.inr k : Key) = valV kvs (.inr k) := valV_neg (by simpa using e)
      have e2 : lkK ((k', d) :: ks) k = lkK ks k := by simp [lkK, e]
      rw [e1, e2]
      exact r.val
end RD
end
section
set_option Elab.async false
set_option maxRecDepth 100000
set_option maxHeartbeats 1000000
namespace RD
open PySem PySem.Spec PyProof.Rows L2
/-! ## the readings, step by step -/
section
variable {t u : TS} {c c' : TT} {te te' : TE} {D : Ends} {σ : L2.St} {H : Hp} {Q : VK} {QB : Bool → Hp → Prop} {QA : List V → Hp → Prop} {QT : L2.St → Hp → Prop} {ta : TA}
@[simp] theorem s_seq : tSeq t u D σ H = t { D with nx := u D } σ H := rfl
@[simp] theorem s_next : tNext D σ H = D.nx σ H := rfl
@[simp] theorem s_break : tBreak D σ H = D.bk σ H := rfl
@[simp] theorem s_cont : tCont D σ H = D.ct σ H := rfl
@[simp] theorem s_ret : tRet te D σ H = te σ H D.rt := rfl
@[simp] theorem s_retN : tRetN D σ H = D.rt .non H := rfl
@[simp] theorem s_drop : tDrop te D σ H = te σ H fun _ H1 => D.nx σ H1 := rfl
@[simp] theorem s_ifs : tIfS c t u D σ H = c σ H fun b H1 => if b = true then t D σ H1 else u D σ H1 := rfl
@[simp] theorem s_asg {g : TG} : tAsg te g D σ H = te σ H fun x H1 => g x σ H1 D.nx := rfl
@[simp] theorem s_var {i : Nat} : tVar i σ H Q = ∃ v, σ[i]? = some (some v) ∧ Q v H := rfl
@[simp] theorem s_c {v : V} : tC v σ H Q = Q v H := rfl
@[simp] theorem s_nil : tNil σ H QA = QA [] H := rfl
@[simp] theorem s_cons : tCons te ta σ H QA = te σ H fun x H1 => ta σ H1 fun xs H2 => QA (x :: xs) H2 := rfl
@[simp] theorem s_tru : RD.tTru te σ H QB = te σ H fun x H1 => ∃ k, truA H1 x = some k ∧ QB k H1 := rfl
@[simp] theorem s_tb {r : List V → Hp → VK → Prop} : tTB r ta σ H Q = ta σ H fun vs H1 => r vs H1 Q := rfl
@[simp] theorem s_op {r : R2} : tOp r te te' σ H Q = te σ H fun x H1 => te' σ H1 fun y H2 => r x y H2 Q := rfl
@[simp] theorem s_un {r : V → Hp → VK → Prop} : tUn r te σ H Q = te σ H fun x H1 => r x H1 Q := rfl
@[simp] theorem s_test : tTest te σ H QB = te σ H fun x H' => ∃ k, x = .bl k ∧ QB k H' := rfl
@[simp] theorem s_and : tAnd c c' σ H QB = c σ H fun b H1 => if b = true then c' σ H1 QB else QB false H1 := rfl
@[simp] theorem s_or : tOr c c' σ H QB = c σ H fun b H1 => if b = true then QB true H1 else c' σ H1 QB := rfl
@[simp] theorem s_not : tNot c σ H QB = c σ H fun b H1 => QB (!b) H1 := rfl
@[simp] theorem s_andV : tAndV te te' σ H Q = te σ H fun x H1 => ∃ c, x = .bl c ∧ if c = true then te' σ H1 Q else Q (.bl false) H1 := rfl
@[simp] theorem s_orV : tOrV te te' σ H Q = te σ H fun x H1 => ∃ c, x = .bl c ∧ if c = true then Q (.bl true) H1 else te' σ H1 Q := rfl
@[simp] theorem s_notV : tNotV te σ H Q = te σ H fun x H1 => ∃ c, x = .bl c ∧ Q (.bl (!c)) H1 := rfl
@[simp] theorem s_if : tIf c te te' σ H Q = c σ H fun b H1 => if b = true then te σ H1 Q else te' σ H1 Q := rfl
@[simp] theorem s_name {i : Nat} {v : V} : gName i v σ H QT = QT (σ.set i (some v)) H := rfl
@[simp] theorem s_gnil {vs : List V} : gNil vs σ H QT = (vs = [] ∧ QT σ H) := rfl
@[simp] theorem s_gcons {g : TG} {gs : TGs} {vs : List V} : gCons g gs vs σ H QT = ∃ v r, vs = v :: r ∧ g v σ H fun σ' H' => gs r σ' H' QT := rfl
@[simp] theorem s_gsub {s : TSet} {v : V} : gSub te te' s v σ H QT = te σ H fun o H1 => te' σ H1 fun i H2 => s o i v H2 fun H3 => QT σ H3 := rfl
@[simp] theorem s_lst : tLst ta σ H Q = ta σ H fun xs H1 => xs.length ≤ sizeLine ∧ ∀ p, H1 p = none → Q (.ref p) (upd H1 p (.lst xs)) := rfl
@[simp] theorem s_tup : tTup ta σ H Q = ta σ H fun xs H1 => xs.length ≤ sizeLine ∧ ∀ p, H1 p = none → Q (.ref p) (upd H1 p (.tup xs)) := rfl
@[simp] theorem s_dnew : tDNewK σ H Q = ∀ p, H p = none → Q (.ref p) (upd H p (.dK [])) := rfl
@[simp] theorem s_call {sp : Sp} {E : L2.St → XK} : tCallS sp E ta σ H Q = ta σ H fun vs H1 => sp vs H1 Q (E σ) := rfl
@[simp] theorem s_we {W : WX} : WE W σ = fun cls d H => W cls d σ H := rfl
@[simp] theorem s_sl {r : V → Option Int → Option Int → Hp → VK → Prop} {tl th : TO} : tSl r te tl th σ H Q = te σ H fun x H1 => tl σ H1 fun l H2 => th σ H2 fun u H3 => r x l u H3 Q := rfl
@[simp] theorem s_nopart {QO : Option Int → Hp → Prop} : tNoPart σ H QO = QO none H := rfl
@[simp] theorem s_part {QO : Option Int → Hp → Prop} : tPart te σ H QO = te σ H fun x H1 => ∃ i, x = .int i ∧ QO (some i) H1 := rfl
@[simp] theorem s_yes : tYes σ H QB = QB true H := rfl
@[simp] theorem s_rng1 {R : It → Hp → Prop} : iRng1 ta σ H R = ta σ H fun vs H1 => ∃ j : Int, vs = [.int j] ∧ -(2 ^ 62) ≤ j ∧ j < 2 ^ 62 ∧ R (Itr 0 j.toNat) H1 := rfl
@[simp] theorem s_rng2 {R : It → Hp → Prop} : iRng2 ta σ H R = ta σ H fun vs H1 => ∃ i j : Int, vs = [.int i, .int j] ∧ (-(2 ^ 62) ≤ i ∧ i < 2 ^ 62 ∧ -(2 ^ 62) ≤ j ∧ j < 2 ^ 62) ∧ R (Itr i (j - i).toNat) H1 := rfl
@[simp] theorem s_mt {m : Str} : tMt m te ta σ H Q = te σ H fun x H1 => ∃ T r, mtT H1 x = some T ∧ mtR m T = some r ∧ ta σ H1 fun xs H2 => r x xs H2 Q := rfl
@[simp] theorem s_bin_int_add {i j : Int} : rBin .Add (.int i) (.int j) H Q = Q (.int (i + j)) H := rfl
@[simp] theorem s_bin_int_bl {i : Int} {j : Bool} : rBin .Add (.int i) (.bl j) H Q = Q (.int (i + b2i j)) H := rfl
@[simp] theorem s_bin_str_add {a b : Str} : rBin .Add (.str a) (.str b) H Q = (a.length + b.length ≤ sizeLine ∧ Q (.str (a ++ b)) H) := rfl
theorem s_bin_ref_add {a b : Addr} : rBin .Add (.ref a) (.ref b) H Q = (match vw H a with
    | some (.lst xs) => ∃ ys, H a = some (.lst xs) ∧ H b = some (.lst ys) ∧ xs.length + ys.length ≤ sizeLine ∧ ∀ p, H p = none → Q (.ref p) (upd H p (.lst (xs ++ ys)))
    | some (.tup xs) => ∃ ys, vw H b = some (.tup ys) ∧ xs.length + ys.length ≤ sizeLine ∧ ∀ v H', Same H H' → TupAt H' v (xs ++ ys) → Q v H'
    | _ => False) := rfl
@[simp] theorem s_bin_sub {i j : Int} : rBin .Sub (.int i) (.int j) H Q = Q (.int (i - j)) H := by
  show (∃ i' j', V.int i = .int i' ∧ V.int j = .int j' ∧ Q (.int (i' - j')) H) = _
  simp
@[simp] theorem s_bin_mul {i j : Int} : rBin .Mult (.int i) (.int j) H Q = (CMulW i j ∧ Q (.int (i * j)) H) := rfl
@[simp] theorem s_bin_div {i j : Int} : rBin .FloorDiv (.int i) (.int j) H Q = (CDivW i j ∧ Q (.int (i / j)) H) := by
  show (∃ i' j', V.int i = .int i' ∧ V.int j = .int j' ∧ CDivW i' j' ∧ Q (.int (i' / j')) H) = _
  simp
@[simp] theorem s_bin_mod {i j : Int} : rBin .Mod (.int i) (.int j) H Q = (0 < j ∧ Q (.int (i % j)) H) := by
  show (∃ i' j', V.int i = .int i' ∧ V.int j = .int j' ∧ 0 < j' ∧ Q (.int (i' % j')) H) = _
  simp
@[simp] theorem s_bin_pow {i j : Int} : rBin .Pow (.int i) (.int j) H Q = (CPow i j ∧ Q (.int (i ^ j.toNat)) H) := by
  show (∃ i' j', V.int i = .int i' ∧ V.int j = .int j' ∧ CPow i' j' ∧ Q (.int (i' ^ j'.toNat)) H) = _
  simp
@[simp] theorem s_neg {i : Int} : rNeg (.int i) H Q = Q (.int (-i)) H := by
  show (∃ i', V.int i = .int i' ∧ Q (.int (-i')) H) = _
  simp
variable {K : PySem.W.Frag}
@[simp] theorem s_lt {i j : Int} : rCmp K .Lt (.int i) (.int j) H Q = Q (.bl (decide (i < j))) H := by
  show (∃ i' j', V.int i = .int i' ∧ V.int j = .int j' ∧ Q (.bl (decide (i' < j'))) H) = _
  simp
@[simp] theorem s_ge {i j : Int} : rCmp K .GtE (.int i) (.int j) H Q = Q (.bl (decide (j ≤ i))) H := by
  show (∃ i' j', V.int i = .int i' ∧ V.int j = .int j' ∧ Q (.bl (decide (j' ≤ i'))) H) = _
  simp
@[simp] theorem s_gt {i j : Int} : rCmp K .Gt (.int i) (.int j) H Q = Q (.bl (decide (j < i))) H := by
  show (∃ i' j', V.int i = .int i' ∧ V.int j = .int j' ∧ Q (.bl (decide (j' < i'))) H) = _
  simp
@[simp] theorem s_le {i j : Int} : rCmp K .LtE (.int i) (.int j) H Q = Q (.bl (decide (i ≤ j))) H := by
  show (∃ i' j', V.int i = .int i' ∧ V.int j = .int j' ∧ Q (.bl (decide (i' ≤ j'))) H) = _
  simp
@[simp] theorem s_is {x y : V} : rCmp K .Is x y H Q = (y = .non ∧ Q (.bl (decide (x = .non))) H) := rfl
@[simp] theorem s_isnot {x y : V} : rCmp K .IsNot x y H Q = (y = .non ∧ Q (.bl (!decide (x = .non))) H) := rfl
theorem s_eq {x y : V} : rCmp K .Eq x y H Q = ∃ b, EqA K H x y b ∧ Q (.bl b) H := rfl
theorem s_ne {x y : V} : rCmp K .NotEq x y H Q = ∃ b, EqA K H x y b ∧ Q (.bl (!b)) H := rfl
theorem eqI {x y : V} {b : Bool} (h : EqA K H x y b) (q : Q (.bl b) H) : rCmp K .Eq x y H Q := ⟨b, h, q⟩
theorem neI {x y : V} {b : Bool} (h : EqA K H x y b) (q : Q (.bl (!b)) H) : rCmp K .NotEq x y H Q := ⟨b, h, q⟩
@[simp] theorem s_in {x y : V} : rCmp K .In x y H Q = ∃ b, inA H x y = some b ∧ Q (.bl b) H := rfl
@[simp] theorem s_nin {x y : V} : rCmp K .NotIn x y H Q = ∃ b, inA H x y = some b ∧ Q (.bl (!b)) H := rfl
@[simp] theorem s_ix {x y : V} : rIx x y H Q = ∃ v, ixV H x y = some v ∧ Q v H := rfl
@[simp] theorem s_isN {x c : V} : rIsH K none [x, c] H Q = ∃ b, isiA H x c = some b ∧ Q (.bl b) H := by
  show (∃ x' c' b, [x, c] = [x', c'] ∧ isiA H x' c' = some b ∧ Q (.bl b) H) = _
  apply propext
  constructor
  · rintro ⟨x', c', b, e, h⟩
    cases e
    exact ⟨b, h⟩
  · rintro ⟨b, h⟩
    exact ⟨_, _, b, rfl, h⟩
@[simp] theorem s_len {x : V} : rLenA [x] H Q = ∃ n, lenA H x = some n ∧ Q (.int (n : Nat)) H := by
  show (∃ x' n, [x] = [x'] ∧ lenA H x' = some n ∧ Q (.int (n : Nat)) H) = _
  apply propext
  constructor
  · rintro ⟨x', b, e, h⟩
    cases e
    exact ⟨b, h⟩
  · rintro ⟨b, h⟩
    exact ⟨_, b, rfl, h⟩
@[simp] theorem isi_int {i : Int} {T : String} : isiA H (.int i) (.ty T) = subTy "int" T := rfl
@[simp] theorem isi_str {i : Str} {T : String} : isiA H (.str i) (.ty T) = subTy "str" T := rfl
@[simp] theorem isi_bl {i : Bool} {T : String} : isiA H (.bl i) (.ty T) = subTy "bool" T := rfl
@[simp] theorem isi_non {T : String} : isiA H .non (.ty T) = subTy "NoneType" T := rfl
theorem isi_lst {a : Addr} {xs : List V} {T : String} (h : vw H a = some (.lst xs)) : isiA H (.ref a) (.ty T) = subTy "list" T := by simp only [isiA, tyA, h]
theorem isi_tup {a : Addr} {xs : List V} {T : String} (h : vw H a = some (.tup xs)) : isiA H (.ref a) (.ty T) = subTy "tuple" T := by simp only [isiA, tyA, h]
theorem isi_dK {a : Addr} {xs : List (Key × V)} {T : String} (h : vw H a = some (.dK xs)) : isiA H (.ref a) (.ty T) = subTy "dict" T := by simp only [isiA, tyA, h]
@[simp] theorem sub_eq {a b : String} : subTy a b = if b = "int" ∨ b = "str" ∨ b = "bool" ∨ b = "list" ∨ b = "tuple" ∨ b = "dict" then some (decide (a = b) || (decide (a = "bool") && decide (b = "int"))) else none := rfl
@[simp] theorem tru_bl {b : Bool} : truA H (.bl b) = some b := rfl
@[simp] theorem tru_non : truA H .non = some false := rfl
theorem len_lst {a : Addr} {xs : List V} (h : vw H a = some (.lst xs)) : lenA H (.ref a) = some xs.length := by simp only [lenA, h]
theorem len_tup {a : Addr} {xs : List V} (h : vw H a = some (.tup xs)) : lenA H (.ref a) = some xs.length := by simp only [lenA, h]
theorem len_dK {a : Addr} {xs : List (Key × V)} (h : vw H a = some (.dK xs)) : lenA H (.ref a) = some xs.length := by simp only [lenA, h]
theorem ix_lst {a : Addr} {xs : List V} {i : Int} (h : vw H a = some (.lst xs)) : ixV H (.ref a) (.int i) = atI xs i := by simp only [ixV, h]
theorem ix_tup {a : Addr} {xs : List V} {i : Int} (h : vw H a = some (.tup xs)) : ixV H (.ref a) (.int i) = atI xs i := by simp only [ixV, h]
theorem ix_dK {a : Addr} {xs : List (Key × V)} {y : V} (h : vw H a = some (.dK xs)) : ixV H (.ref a) y = (keyOf y).bind (valV xs) := by simp only [ixV, h]
/-- ints compared -/
@[simp] theorem s_eqi {i j : Int} : rCmp K .Eq (.int i) (.int j) H Q = Q (.bl (decide (i = j))) H := by
  rw [s_eq]
  apply propext
  constructor
  · rintro ⟨b, e, q⟩
    cases e with
    | scal h => simpa using q
    | data h1 h2 h3 h4 =>
      cases h1
      cases h2
      have z : PyData.eqv (.int i) (.int j) = decide (i = j) := by
        rw [Bool.eq_iff_iff]
        simp [PyData.eqv]
      rw [z] at q
      exact q
  · intro q
    exact ⟨_, .scal rfl, by simpa using q⟩
@[simp] theorem s_nei {i j : Int} : rCmp K .NotEq (.int i) (.int j) H Q = Q (.bl (!decide (i = j))) H := by
  rw [s_ne]
  apply propext
  constructor
  · rintro ⟨b, e, q⟩
    cases e with
    | scal h => simpa using q
    | data h1 h2 h3 h4 =>
      cases h1
      cases h2
      have z : PyData.eqv (.int i) (.int j) = decide (i = j) := by
        rw [Bool.eq_iff_iff]
        simp [PyData.eqv]
      rw [z] at q
      exact q
  · intro q
    exact ⟨_, .scal rfl, by simpa using q⟩
@[simp] theorem s_srt {x : V} : rSrtA [x] H Q = ∃ ss, srtA H x = some ss ∧ ss.length < 64 ∧ ∀ (ys : List Str) (p : Addr), ys.Perm ss → sortedS ys = true → H p = none → Q (.ref p) (upd H p (.lst (ys.map V.str))) := by
  show (∃ x' ss, [x] = [x'] ∧ srtA H x' = some ss ∧ ss.length < 64 ∧ ∀ (ys : List Str) (p : Addr), ys.Perm ss → sortedS ys = true → H p = none → Q (.ref p) (upd H p (.lst (ys.map V.str)))) = _
  apply propext
  constructor
  · rintro ⟨x', b, e, h⟩
    cases e
    exact ⟨b, h⟩
  · rintro ⟨b, h⟩
    exact ⟨_, b, rfl, h⟩
@[simp] theorem s_all {x : V} : rAll [x] H Q = ∃ xs bs, lstA H x = some xs ∧ blsA xs = some bs ∧ Q (.bl (bs.all id)) H := by
  show (∃ x' xs bs, [x] = [x'] ∧ lstA H x' = some xs ∧ blsA xs = some bs ∧ Q (.bl (bs.all id)) H) = _
  apply propext
  constructor
  · rintro ⟨x', xs, b, e, h⟩
    cases e
    exact ⟨xs, b, h⟩
  · rintro ⟨xs, b, h⟩
    exact ⟨_, xs, b, rfl, h⟩
theorem lstA_vw {a : Addr} {xs : List V} (h : vw H a = some (.lst xs)) : lstA H (.ref a) = some xs := by simp only [lstA, h]
theorem blsA_rep (n : Nat) : blsA (List.replicate n (V.bl true)) = some (List.replicate n true) := by
  induction n with
  | zero => rfl
  | succ n ih =>
    show (blsA (List.replicate n (V.bl true))).map (true :: ·) = _
    rw [ih]
    rfl
theorem rep_snoc {α : Type} (n : Nat) (x : α) : List.replicate n x ++ [x] = List.replicate (n + 1) x := by
  rw [List.replicate_succ']
@[simp] theorem mtR_append : mtR "append" "list" = some rAppendA := rfl
@[simp] theorem mtR_extend : mtR "extend" "list" = some rExtendA := rfl
@[simp] theorem mtR_insert : mtR "insert" "list" = some rInsertA := rfl
@[simp] theorem mtR_join : mtR "join" "str" = some rJoinA := rfl
end
end RD
end
section
set_option Elab.async false
set_option maxRecDepth 100000
set_option maxHeartbeats 1000000
namespace RD
open PySem PySem.Spec PyProof.Rows L2
/-! ## loops -/
/-- J gives xs, one by one, while the heap is as st says -/
def JOn (J : It) (xs : List V) (st : Hp → Prop) : Prop := ∀ i H', st H' → i ≤ xs.length → (i < xs.length → J.go i H' ∧ ∀ x H'', J.yld i H' x H'' → H'' = H' ∧ xs[i]? = some x) ∧ (i = xs.length → J.stop i H')
theorem jl {K : PySem.W.Frag} {a : Addr} {xs : List V} : JOn (Itl K a) xs (fun H => vw H a = some (.lst xs)) := fun i H' h hi =>
  ⟨fun hl => ⟨⟨xs, xs[i], sqL_vw h, List.getElem?_eq_getElem hl⟩, fun x H'' y => ⟨y.1, y.2 xs (sqL_vw h)⟩⟩, fun e => ⟨xs, sqL_vw h, Nat.le_of_eq e.symm⟩⟩
theorem jt {K : PySem.W.Frag} {a : Addr} {xs : List V} : JOn (Itt K a) xs (fun H => vw H a = some (.tup xs)) := fun i H' h hi =>
  ⟨fun hl => ⟨⟨xs, xs[i], sqT_vw h, List.getElem?_eq_getElem hl⟩, fun x H'' y => ⟨y.1, y.2 xs (sqT_vw h)⟩⟩, fun e => ⟨xs, sqT_vw h, Nat.le_of_eq e.symm⟩⟩
def rngV (lo : Int) (n : Nat) : List V := (List.range n).map fun k => .int (lo + (k : Nat))
@[simp] theorem rngV_len {lo : Int} {n : Nat} : (rngV lo n).length = n := by simp [rngV]
theorem rngV_get {lo : Int} {n i : Nat} {x : V} (h : (rngV lo n)[i]? = some x) : i < n ∧ x = .int (lo + i) := by
  unfold rngV at h
  rw [List.getElem?_map] at h
  cases e : (List.range n)[i]? with
  | none => rw [e] at h; cases h
  | some k =>
    rw [e] at h
    obtain ⟨hl, hk⟩ := List.getElem?_eq_some_iff.mp e
    rw [List.getElem_range] at hk
    rw [List.length_range] at hl
    subst hk
    cases h
    exact ⟨hl, rfl⟩
theorem jr {lo : Int} {n : Nat} : JOn (Itr lo n) (rngV lo n) (fun _ => True) := fun i H' _ hi => by
  rw [rngV_len] at *
  exact ⟨fun hl => ⟨hl, fun x H'' y => ⟨y.1, by
    rw [y.2]
    simp [rngV, List.getElem?_map, hl]⟩⟩, fun e => Nat.le_of_eq e.symm⟩
theorem jk {d : Addr} {o : Obj} {kvs : List (Key × V)} : JOn (Itk d o kvs) (kvs.map fun p => kV p.1) (fun H => H d = some (.frz o (.dK kvs))) := fun i H' h hi => by
  rw [List.length_map] at *
  refine ⟨fun hl => ⟨⟨h, hl⟩, fun x H'' y => ⟨y.1, ?_⟩⟩, fun e => ⟨h, Nat.le_of_eq e.symm⟩⟩
  obtain ⟨_, k, v, e1, e2⟩ := y
  rw [List.getElem?_map, e1, e2]
  rfl
def ForW (J : It) (g : TG) (tb : TS) : TS := fun D σ H1 => ∃ W : Nat → Nat → L2.St → Hp → Prop, (∃ m, W 0 m σ H1) ∧ ∀ i m σ H, W i m σ H →
  (J.stop i H ∧ D.nx σ H) ∨ (J.go i H ∧ ∃ N : L2.St → Hp → Prop, (∀ σ' H', N σ' H' → ∃ m', m' < m ∧ W (i + 1) m' σ' H') ∧ ∀ x H', J.yld i H x H' → g x σ H' fun σ2 H2 => tb { D with nx := N, ct := N, bk := D.nx } σ2 H2)
theorem forW_by {J : It} {g : TG} {tb : TS} {D : Ends} {σ : L2.St} {H : Hp} {xs : List V} {st : Hp → Prop} (jo : JOn J xs st) (Pv : Nat → L2.St → Hp → Prop) (hst : ∀ i σ' H', Pv i σ' H' → st H') (h0 : Pv 0 σ H)
    (hs : ∀ i x σ' H', xs[i]? = some x → Pv i σ' H' → g x σ' H' fun σ2 H2 => tb { D with nx := Pv (i + 1), ct := Pv (i + 1), bk := D.nx } σ2 H2) (hd : ∀ σ' H', Pv xs.length σ' H' → D.nx σ' H') : ForW J g tb D σ H := by
  refine ⟨fun i m σ H => m = xs.length - i ∧ i ≤ xs.length ∧ Pv i σ H, ⟨xs.length, by simp, Nat.zero_le _, h0⟩, ?_⟩
  rintro i m σ H ⟨rfl, hi, p⟩
  obtain ⟨j1, j2⟩ := jo i H (hst _ _ _ p) hi
  by_cases hlt : i < xs.length
  · refine .inr ⟨(j1 hlt).1, Pv (i + 1), fun σ' H' p' => ⟨xs.length - (i + 1), by omega, rfl, hlt, p'⟩, fun x H' y => ?_⟩
    obtain ⟨e, hxi⟩ := (j1 hlt).2 x H' y
    subst e
    exact hs i x σ _ hxi p
  · have e : i = xs.length := by omega
    subst e
    exact .inl ⟨j2 rfl, hd σ H p⟩
def LcW (J : It) (g : TG) (tt : TT) (te : TE) (vs : List Nat) : TE := fun σ H1 Q => ∀ D, H1 D = none → ∃ W : Nat → Nat → Hp → Prop, (∃ m, W 0 m (upd H1 D (.lst []))) ∧ ∀ i m H, W i m H →
  (J.stop i H ∧ Q (.ref D) H) ∨ (J.go i H ∧ ∃ Nx : Hp → Prop, (∀ H', Nx H' → ∃ m', m' < m ∧ W (i + 1) m' H') ∧ ∀ x H', J.yld i H x H' → g x (wipe σ vs) H' fun σ2 H2 => wipe σ2 vs = wipe σ vs ∧ tt σ2 H2 fun b H3 =>
    if b = true then te σ2 H3 fun y H4 => ∃ acc, H4 D = some (.lst acc) ∧ acc.length < sizeLine ∧ Nx (upd H4 D (.lst (acc ++ [y]))) else Nx H3)
/-- with a test -/
theorem lcW_if {J : It} {tt : TT} {te : TE} {k : Nat} {σ : L2.St} {H1 : Hp} {Q : VK} {xs : List V} {st : Hp → Prop} (jo : JOn J xs st) (Iv : Addr → Nat → List V → Hp → Prop) (hx : xs.length ≤ 1000000) (hst : ∀ D i acc H', H1 D = none → Iv D i acc H' → st H') (h0 : ∀ D, H1 D = none → Iv D 0 [] (upd H1 D (.lst [])))
    (hs : ∀ D i x acc H' (QB : Bool → Hp → Prop) (Qy : VK), H1 D = none → xs[i]? = some x → H' D = some (.lst acc) → acc.length ≤ i → Iv D i acc H' → (∀ H3, H3 D = some (.lst acc) → Iv D (i + 1) acc H3 → QB false H3) → (∀ H3, te ((σ.set k none).set k (some x)) H3 Qy → QB true H3) →
      (∀ y H4, H4 D = some (.lst acc) → Iv D (i + 1) (acc ++ [y]) (upd H4 D (.lst (acc ++ [y]))) → Qy y H4) → tt ((σ.set k none).set k (some x)) H' QB)
    (hd : ∀ D acc H', H1 D = none → H' D = some (.lst acc) → acc.length ≤ xs.length → Iv D xs.length acc H' → Q (.ref D) H') : LcW J (gName k) tt te [k] σ H1 Q := by
  intro D hD
  refine ⟨fun i m H => m = xs.length - i ∧ i ≤ xs.length ∧ ∃ acc, H D = some (.lst acc) ∧ acc.length ≤ i ∧ Iv D i acc H, ⟨xs.length, by simp, Nat.zero_le _, [], upd_same, Nat.zero_le _, h0 D hD⟩, ?_⟩
  rintro i m H ⟨rfl, hi, acc, ha, hl, p⟩
  obtain ⟨j1, j2⟩ := jo i H (hst _ _ _ _ hD p) hi
  by_cases hlt : i < xs.length
  · refine .inr ⟨(j1 hlt).1, fun H' => ∃ acc', H' D = some (.lst acc') ∧ acc'.length ≤ i + 1 ∧ Iv D (i + 1) acc' H', fun H' p' => ⟨xs.length - (i + 1), by omega, rfl, hlt, p'⟩, fun x H' y => ?_⟩
    obtain ⟨e, hxi⟩ := (j1 hlt).2 x H' y
    subst e
    refine ⟨?_, hs D i x acc _ _ _ hD hxi ha hl p (fun H3 h3 iv => ?_) (fun H3 z => z) fun y H4 h4 iv => ⟨acc, h4, ?_, _, upd_same, by simp; omega, iv⟩⟩
    · show (((σ.set k none).set k (some x)).set k none) = σ.set k none
      rw [List.set_set, List.set_set]
    · exact ⟨acc, h3, Nat.le_succ_of_le hl, iv⟩
    · have : sizeLine = 16777216 := by decide
      omega
  · have e : i = xs.length := by omega
    subst e
    exact .inl ⟨j2 rfl, hd D acc H hD ha hl p⟩
/-- without a test -/
theorem lcW_by {J : It} {te : TE} {k : Nat} {σ : L2.St} {H1 : Hp} {Q : VK} {xs : List V} {st : Hp → Prop} (jo : JOn J xs st) (Iv : Addr → Nat → List V → Hp → Prop) (hx : xs.length ≤ 1000000) (hst : ∀ D i acc H', H1 D = none → Iv D i acc H' → st H') (h0 : ∀ D, H1 D = none → Iv D 0 [] (upd H1 D (.lst [])))
    (hs : ∀ D i x acc H' (Qy : VK), H1 D = none → xs[i]? = some x → H' D = some (.lst acc) → acc.length = i → Iv D i acc H' → (∀ y H4, H4 D = some (.lst acc) → Iv D (i + 1) (acc ++ [y]) (upd H4 D (.lst (acc ++ [y]))) → Qy y H4) → te ((σ.set k none).set k (some x)) H' Qy)
    (hd : ∀ D acc H', H1 D = none → H' D = some (.lst acc) → acc.length = xs.length → Iv D xs.length acc H' → Q (.ref D) H') : LcW J (gName k) tYes te [k] σ H1 Q := by
  intro D hD
  refine ⟨fun i m H => m = xs.length - i ∧ i ≤ xs.length ∧ ∃ acc, H D = some (.lst acc) ∧ acc.length = i ∧ Iv D i acc H, ⟨xs.length, by simp, Nat.zero_le _, [], upd_same, rfl, h0 D hD⟩, ?_⟩
  rintro i m H ⟨rfl, hi, acc, ha, hl, p⟩
  obtain ⟨j1, j2⟩ := jo i H (hst _ _ _ _ hD p) hi
  by_cases hlt : i < xs.length
  · refine .inr ⟨(j1 hlt).1, fun H' => ∃ acc', H' D = some (.lst acc') ∧ acc'.length = i + 1 ∧ Iv D (i + 1) acc' H', fun H' p' => ⟨xs.length - (i + 1), by omega, rfl, hlt, p'⟩, fun x H' y => ?_⟩
    obtain ⟨e, hxi⟩ := (j1 hlt).2 x H' y
    subst e
    show wipe ((wipe σ [k]).set k (some x)) [k] = wipe σ [k] ∧ te ((wipe σ [k]).set k (some x)) _ _
    refine ⟨?_, ?_⟩
    · show (((σ.set k none).set k (some x)).set k none) = σ.set k none
      rw [List.set_set, List.set_set]
    · refine hs D i x acc _ _ hD hxi ha hl p fun y H4 h4 iv => ⟨acc, h4, ?_, acc ++ [y], upd_same, by simp [hl], iv⟩
      have : sizeLine = 16777216 := by decide
      omega
  · have e : i = xs.length := by omega
    subst e
    exact .inl ⟨j2 rfl, hd D acc H hD ha hl p⟩
section
variable {K : PySem.W.Frag} {te te2 : TE} {g : TG} {tt : TT} {tb : TS} {D : Ends} {σ : L2.St} {H : Hp} {Q : VK} {vs : List Nat} {ta : TA}
theorem forA_lst (h : te σ H fun x H1 => ∃ a, x = .ref a ∧ (∃ xs, SqL K H1 a xs) ∧ ForW (Itl K a) g tb D σ H1) : forA (tFor (iAny K te) g tb) D σ H := .inl (.inl h)
theorem forA_tup (h : te σ H fun x H1 => ∃ a, x = .ref a ∧ (∃ xs, SqT K H1 a xs) ∧ ForW (Itt K a) g tb D σ H1) : forA (tFor (iAny K te) g tb) D σ H := .inl (.inr (.inl h))
theorem forA_rng1 (h : ta σ H fun vs H1 => ∃ j : Int, vs = [.int j] ∧ -(2 ^ 62) ≤ j ∧ j < 2 ^ 62 ∧ ForW (Itr 0 j.toNat) g tb D σ H1) : forA (tFor (iRng1 ta) g tb) D σ H := .inl h
theorem forA_rng2 (h : ta σ H fun vs H1 => ∃ i j : Int, vs = [.int i, .int j] ∧ (-(2 ^ 62) ≤ i ∧ i < 2 ^ 62 ∧ -(2 ^ 62) ≤ j ∧ j < 2 ^ 62) ∧ ForW (Itr i (j - i).toNat) g tb D σ H1) : forA (tFor (iRng2 ta) g tb) D σ H := .inl h
theorem lcA_lst (h : te σ H fun x H1 => ∃ a, x = .ref a ∧ (∃ xs, SqL K H1 a xs) ∧ LcW (Itl K a) g tt te2 vs σ H1 Q) : lcA (tLc (iAny K te) g tt te2 vs) σ H Q := .inl (.inl h)
theorem lcA_rng1 (h : ta σ H fun ws H1 => ∃ j : Int, ws = [.int j] ∧ -(2 ^ 62) ≤ j ∧ j < 2 ^ 62 ∧ LcW (Itr 0 j.toNat) g tt te2 vs σ H1 Q) : lcA (tLc (iRng1 ta) g tt te2 vs) σ H Q := .inl h
/-! ### dicts: locked while they are walked -/
/-- what stood at d stands there again -/
def un (H : Hp) (d : Addr) (H' : Hp) : Hp := fun b => if b = d then H d else H' b
theorem un_same {H H' : Hp} {d : Addr} (h : H' d = H d) : un H d H' = H' := by
  funext b
  unfold un
  split
  · rename_i e; rw [e, h]
  · rfl
theorem un_upd {H H' : Hp} {d : Addr} {u : HO} (h : H d = some u) : upd H' d u = un H d H' := by
  funext b
  unfold un upd
  split
  · exact h.symm
  · rfl
theorem un_at {H H' : Hp} {d : Addr} : un H d H' d = H d := by simp [un]
theorem un_ne {H H' : Hp} {d b : Addr} (h : b ≠ d) : un H d H' b = H' b := by simp [un, h]
/-- the heap with the dict locked -/
structure Lkd (H : Hp) (d : Addr) (kvs : List (Key × V)) (o : Obj) (Hl : Hp) : Prop where
  at_ : Hl d = some (.frz o (.dK kvs))
  ne : ∀ b, b ≠ d → Hl b = H b
  v : vw H d = some (.dK kvs)
theorem Lkd.vw {H Hl : Hp} {d : Addr} {kvs : List (Key × V)} {o : Obj} (l : Lkd H d kvs o Hl) (b : Addr) : vw Hl b = RD.vw H b := by
  by_cases e : b = d
  · subst e
    rw [l.v]
    unfold RD.vw
    rw [l.at_]
  · unfold RD.vw
    rw [l.ne b e]
theorem vw_cases {H : Hp} {d : Addr} {u : HO} (h : vw H d = some u) : H d = some u ∨ ∃ o, H d = some (.frz o u) := by
  rcases rd_vw h with h | ⟨o, h⟩
  · exact .inl h
  · exact .inr ⟨o, h⟩
theorem lkd_cases {H : Hp} {d : Addr} {kvs : List (Key × V)} (h : vw H d = some (.dK kvs)) : (H d = some (.dK kvs) ∧ ∀ o, Lkd H d kvs o (upd H d (.frz o (.dK kvs)))) ∨ ∃ o, H d = some (.frz o (.dK kvs)) ∧ Lkd H d kvs o H := by
  rcases vw_cases h with e | ⟨o, e⟩
  · exact .inl ⟨e, fun o => ⟨upd_same, fun b hb => upd_ne hb, h⟩⟩
  · exact .inr ⟨o, e, e, fun _ _ => rfl, h⟩
/-- a comprehension over a dict's names -/
theorem lcA_keys {d : Addr} {kvs : List (Key × V)} (h : vw H d = some (.dK kvs)) (hx : ∀ Hl (R : VK), R (.ref d) Hl → te σ Hl R)
    (b : ∀ Hl o (Q' : VK), Lkd H d kvs o Hl → (∀ v H', H' d = Hl d → Q v (un H d H') → Q' v H') → LcW (Itk d o kvs) g tt te2 vs σ Hl Q') : lcA (tLc (iAny K te) g tt te2 vs) σ H Q := by
  rcases lkd_cases h with ⟨e, l⟩ | ⟨o, e, l⟩
  · refine .inr ⟨d, _, e, trivial, fun od => .inr (.inr (.inr (hx _ _ ⟨d, od, rfl, .inl ⟨kvs, upd_same, ?_⟩⟩)))⟩
    exact b _ od (fun v H' => H' d = some (.frz od (.dK kvs)) ∧ Q v (upd H' d (.dK kvs))) (l od) fun v H' hd q => ⟨by rw [hd, (l od).at_], by rw [un_upd e]; exact q⟩
  · refine .inl (.inr (.inr (.inr (hx _ _ ⟨d, o, rfl, .inl ⟨kvs, e, ?_⟩⟩))))
    exact b _ o Q l fun v H' hd q => by rw [un_same hd] at q; exact q
/-- a loop over a dict's names -/
theorem forA_keys {d : Addr} {kvs : List (Key × V)} (h : vw H d = some (.dK kvs)) (hx : ∀ Hl (R : VK), R (.ref d) Hl → te σ Hl R)
    (b : ∀ Hl o (D' : Ends), Lkd H d kvs o Hl → (∀ σ' H', H' d = Hl d → D.nx σ' (un H d H') → D'.nx σ' H') → (∀ v H', H' d = Hl d → D.rt v (un H d H') → D'.rt v H') → ForW (Itk d o kvs) g tb D' σ Hl) : forA (tFor (iAny K te) g tb) D σ H := by
  rcases lkd_cases h with ⟨e, l⟩ | ⟨o, e, l⟩
  · refine .inr ⟨d, _, e, trivial, fun od => .inr (.inr (.inr (hx _ _ ⟨d, od, rfl, .inl ⟨kvs, upd_same, ?_⟩⟩)))⟩
    exact b _ od ⟨fun σ' H' => H' d = some (.frz od (.dK kvs)) ∧ D.nx σ' (upd H' d (.dK kvs)), fun v H' => H' d = some (.frz od (.dK kvs)) ∧ D.rt v (upd H' d (.dK kvs)), fun σ' H' => H' d = some (.frz od (.dK kvs)) ∧ D.bk σ' (upd H' d (.dK kvs)), fun σ' H' => H' d = some (.frz od (.dK kvs)) ∧ D.ct σ' (upd H' d (.dK kvs))⟩ (l od)
      (fun v H' hd q => ⟨by rw [hd, (l od).at_], by rw [un_upd e]; exact q⟩) (fun v H' hd q => ⟨by rw [hd, (l od).at_], by rw [un_upd e]; exact q⟩)
  · refine .inl (.inr (.inr (.inr (hx _ _ ⟨d, o, rfl, .inl ⟨kvs, e, ?_⟩⟩))))
    exact b _ o D l (fun v H' hd q => by rw [un_same hd] at q; exact q) (fun v H' hd q => by rw [un_same hd] at q; exact q)
end
theorem Lkd.rep {H Hl : Hp} {d : Addr} {kvs : List (Key × V)} {o : Obj} (l : Lkd H d kvs o Hl) {v : V} {dc : Doc} (r : Rep H v dc) : Rep Hl v dc := r.stay fun a u e => by rw [l.vw a]; exact e
theorem Lkd.repK {H Hl : Hp} {d : Addr} {kvs : List (Key × V)} {o : Obj} (l : Lkd H d kvs o Hl) {v : List (Key × V)} {dc : List (Str × Doc)} (r : RepK H v dc) : RepK Hl v dc := r.stay fun a u e => by rw [l.vw a]; exact e
theorem Lkd.none {H Hl : Hp} {d : Addr} {kvs : List (Key × V)} {o : Obj} (l : Lkd H d kvs o Hl) {b : Addr} : Hl b = Option.none ↔ H b = Option.none := by
  by_cases e : b = d
  · subst e
    have h := l.v
    constructor
    · intro z; rw [l.at_] at z; cases z
    · intro z
      unfold RD.vw at h
      rw [z] at h
      cases h
  · rw [l.ne b e]
theorem Lkd.same {H Hl H' : Hp} {d : Addr} {kvs : List (Key × V)} {o : Obj} (l : Lkd H d kvs o Hl) (s : Same Hl H') : Same H (un H d H') := fun b u e => by
  by_cases eb : b = d
  · subst eb
    rw [un_at, e]
  · rw [un_ne eb]
    refine s b u ?_
    rw [l.ne b eb]
    exact e
theorem same_upd {H H' : Hp} {D : Addr} {o : HO} (h : H D = none) (s : Same H H') : Same H (upd H' D o) := fun b u e => by
  have nb : b ≠ D := fun z => by rw [z, h] at e; cases e
  rw [upd_ne nb]
  exact s b u e
theorem same_none {H H' : Hp} (s : Same H H') {a : Addr} (h : H' a = none) : H a = none := by
  cases e : H a with
  | none => rfl
  | some u => rw [s a u e] at h; cases h
end RD
end
section
set_option Elab.async false
set_option maxRecDepth 100000
set_option maxHeartbeats 1000000
namespace RD
open PySem PySem.Spec PyProof.Rows L2
/-! ## lists, tables -/
theorem take_one {α : Type} {l : List α} {i : Nat} {x : α} (h : l[i]? = some x) : l.take (i + 1) = l.take i ++ [x] := by
  rw [List.take_add_one, h]
  rfl
theorem mem_of_get {α : Type} {l : List α} {i : Nat} {x : α} (h : l[i]? = some x) : x ∈ l := List.mem_of_getElem? h
theorem lt_of_get {α : Type} {l : List α} {i : Nat} {x : α} (h : l[i]? = some x) : i < l.length := (List.getElem?_eq_some_iff.mp h).1
theorem nodup_take {α : Type} : ∀ {l : List α} {i : Nat} {x : α}, l.Nodup → l[i]? = some x → x ∉ l.take i
  | a :: r, 0, x, _, h => by simp
  | a :: r, i + 1, x, hn, h => by
    obtain ⟨h1, h2⟩ := List.nodup_cons.mp hn
    have h' : r[i]? = some x := h
    rw [List.take_succ_cons]
    intro hm
    rcases List.mem_cons.mp hm with e | hm
    · subst e
      exact h1 (mem_of_get h')
    · exact nodup_take h2 h' hm
theorem valV_none {κ : Type} [DecidableEq κ] {kvs : List (κ × V)} {k : κ} (h : ∀ p ∈ kvs, p.1 ≠ k) : valV kvs k = none := by
  induction kvs with
  | nil => rfl
  | cons p r ih =>
    rw [valV_neg (h p List.mem_cons_self)]
    exact ih fun q hq => h q (List.mem_cons_of_mem _ hq)
theorem valV_get {κ : Type} [DecidableEq κ] : ∀ {kvs : List (κ × V)} {i : Nat} {k : κ} {v : V}, (kvs.map (·.1)).Nodup → kvs[i]? = some (k, v) → valV kvs k = some v
  | p :: r, 0, k, v, _, h => by
    cases h
    exact valV_pos rfl
  | p :: r, i + 1, k, v, hn, h => by
    obtain ⟨h1, h2⟩ := List.nodup_cons.mp (show (p.1 :: r.map (·.1)).Nodup from hn)
    have h' : r[i]? = some (k, v) := h
    rw [valV_neg (fun e => h1 (by rw [e]; exact List.mem_map.mpr ⟨_, mem_of_get h', rfl⟩))]
    exact valV_get h2 h'
theorem RepK.keyNodup {H : Hp} {vs : List (Key × V)} {ds : List (Str × Doc)} (r : RepK H vs ds) (h : (ds.map (·.1)).Nodup) : (vs.map (·.1)).Nodup := by
  rw [r.keys]
  have e : ds.map (fun p => (Sum.inr p.1 : Key)) = (ds.map (·.1)).map Sum.inr := by rw [List.map_map]; rfl
  rw [e]
  exact List.Pairwise.map _ (fun a b (hab : a ≠ b) z => hab (Sum.inr.inj z)) h
theorem OwnL.push {H H' : Hp} {D : Addr} {o' u : HO} {acc : List V} {ds : List Doc} {i : Nat} {d : Doc} {y : V} {fp fp' : List Addr} (o : OwnL H acc (ds.take i) fp) (hd : ds[i]? = some d) (s : Same H H') (oy : Own H' y d fp') (fr : ∀ a ∈ fp', H a = none) (nD : D ∉ fp) (hD : H D = some u) :
    OwnL (upd H' D o') (acc ++ [y]) (ds.take (i + 1)) (fp ++ fp') ∧ D ∉ fp ++ fp' := by
  have nD' : D ∉ fp' := fun h => by rw [fr D h] at hD; cases hD
  refine ⟨?_, fun h => (List.mem_append.mp h).elim nD nD'⟩
  rw [take_one hd]
  refine OwnL.snoc (oy.stay fun a h => upd_ne fun (e : a = D) => nD' (e ▸ h)) ((o.same s).stay fun a h => upd_ne fun (e : a = D) => nD (e ▸ h)) fun a h z => ?_
  obtain ⟨w, e⟩ := o.there a z
  rw [fr a h] at e
  cases e
theorem OwnK.push {H H' : Hp} {D : Addr} {o' u : HO} {acc : List (Key × V)} {ds : List (Str × Doc)} {i : Nat} {k : Str} {d : Doc} {y : V} {fp fp' : List Addr} (o : OwnK H acc (ds.take i) fp) (hd : ds[i]? = some (k, d)) (s : Same H H') (oy : Own H' y d fp') (fr : ∀ a ∈ fp', H a = none) (nD : D ∉ fp) (hD : H D = some u) :
    OwnK (upd H' D o') (acc ++ [(.inr k, y)]) (ds.take (i + 1)) (fp ++ fp') ∧ D ∉ fp ++ fp' := by
  have nD' : D ∉ fp' := fun h => by rw [fr D h] at hD; cases hD
  refine ⟨?_, fun h => (List.mem_append.mp h).elim nD nD'⟩
  rw [take_one hd]
  refine OwnK.snoc (oy.stay fun a h => upd_ne fun (e : a = D) => nD' (e ▸ h)) ((o.same s).stay fun a h => upd_ne fun (e : a = D) => nD (e ▸ h)) fun a h z => ?_
  obtain ⟨w, e⟩ := o.there a z
  rw [fr a h] at e
  cases e
theorem RepK.putNew {H : Hp} {acc : List (Key × V)} {ds : List (Str × Doc)} {i : Nat} {k : Str} {d : Doc} (r : RepK H acc (ds.take i)) (hn : (ds.map (·.1)).Nodup) (hd : ds[i]? = some (k, d)) (y : V) : putK acc (.inr k) y = acc ++ [(.inr k, y)] := by
  refine putK_new y (valV_none fun p hp e => ?_)
  have h1 : p.1 ∈ acc.map (·.1) := List.mem_map.mpr ⟨p, hp, rfl⟩
  rw [r.keys, e] at h1
  obtain ⟨q, hq, e2⟩ := List.mem_map.mp h1
  have hx : (ds.map (·.1))[i]? = some k := by rw [List.getElem?_map, hd]; rfl
  have := nodup_take hn hx
  rw [← List.map_take] at this
  exact this (List.mem_map.mpr ⟨q, hq, Sum.inr.inj e2⟩)
/-! ### sorted texts: only one way -/
theorem cps_inj {a b : Str} (h : a.cps.toList = b.cps.toList) : a = b := by
  obtain ⟨x⟩ := a
  obtain ⟨y⟩ := b
  have e : x = y := Array.toList_inj.mp h
  subst e
  rfl
theorem rising_pair : ∀ (r : List Str) (p : Str), risingS p r = true → (p :: r).Pairwise fun a b => a.cps.toList ≤ b.cps.toList
  | [], p, _ => List.pairwise_singleton _ _
  | x :: r, p, h => by
    have h' : (!ltCps x.cps.toList p.cps.toList && risingS x r) = true := h
    obtain ⟨h1, h2⟩ := Bool.and_eq_true_iff.mp h'
    have ih := rising_pair r x h2
    rw [ltCps_eq] at h1
    have h3 : p.cps.toList ≤ x.cps.toList := by
      have z : ¬ x.cps.toList < p.cps.toList := by simpa using h1
      exact List.not_lt.mp z
    refine List.pairwise_cons.mpr ⟨fun y hy => ?_, ih⟩
    rcases List.mem_cons.mp hy with e | hy
    · rw [e]; exact h3
    · exact List.le_trans h3 ((List.pairwise_cons.mp ih).1 y hy)
theorem sorted_pair : ∀ {l : List Str}, sortedS l = true → l.Pairwise fun a b => a.cps.toList ≤ b.cps.toList
  | [], _ => .nil
  | p :: r, h => rising_pair r p h
theorem sorted_one {ss ys zs : List Str} (h1 : ys.Perm ss) (s1 : sortedS ys = true) (h2 : zs.Perm ss) (s2 : sortedS zs = true) : ys = zs :=
  List.Perm.eq_of_pairwise (le := fun a b => a.cps.toList ≤ b.cps.toList) (fun _ _ _ _ x y => cps_inj (List.le_antisymm x y)) (sorted_pair s1) (sorted_pair s2) (h1.trans h2.symm)
end RD
end
section
set_option Elab.async false
set_option maxRecDepth 100000
set_option maxHeartbeats 4000000
namespace K23
open PySem PySem.Spec PyProof.Rows L2 RD
def hotSp (K : PySem.W.Frag) (n : Nat) (h : Addr × Value × Option Addr) (d : Df) : Sp := (lv (pg.tb K) n).hot h d
theorem r_copy_of (K : PySem.W.Frag) (n : Nat) (vs : List V) (H : Hp) (Q : VK) (E : XK) : run (pg.tb K) (n + 1) d_copy_of vs H Q E = (vs.length = 1 ∧ (tSeq (tIfS (tTru (tTB (rIsH K none) (tCons (tVar 0) (tCons (tC (.ty "list")) tNil)))) (tRet (lcA (tLc (iAny K (tVar 0)) (gName 1) tYes (tCallS (run (pg.tb K) n d_copy_of) (WE W0) (tCons (tVar 1) tNil)) [1]))) tNext) (tSeq (tIfS (tTru (tTB (rIsH K none) (tCons (tVar 0) (tCons (tC (.ty "dict")) tNil)))) (tSeq (tAsg tDNewK (gName 2)) (tSeq (forA (tFor (iAny K (tVar 0)) (gName 3) (tAsg (tCallS (run (pg.tb K) n d_copy_of) (WE (fun cls dd _ H' => E cls dd H')) (tCons (tOp rIx (tVar 0) (tVar 3)) tNil)) (gSub (tVar 2) (tVar 3) rSet)))) (tRet (tVar 2)))) tNext) (tRet (tVar 0)))) { nx := fun _ H' => Q .non H', rt := Q } (start ["doc", "cell", "made", "name"] vs) H) := by
  kernel_rfl
theorem r_goes_into (K : PySem.W.Frag) (n : Nat) (vs : List V) (H : Hp) (Q : VK) (E : XK) : run (pg.tb K) (n + 1) d_goes_into vs H Q E = (vs.length = 2 ∧ (tSeq (tIfS (tTru (tTB (rIsH K none) (tCons (tVar 1) (tCons (tC (.ty "str")) tNil)))) (tRet (tAndV (tTB (rIsH K none) (tCons (tVar 0) (tCons (tC (.ty "dict")) tNil))) (tOp (rCmp K .In) (tVar 1) (tVar 0)))) tNext) (tRet (tAndV (tTB (rIsH K none) (tCons (tVar 0) (tCons (tC (.ty "list")) tNil))) (tOp (rCmp K .Lt) (tVar 1) (tTB rLenA (tCons (tVar 0) tNil)))))) { nx := fun _ H' => Q .non H', rt := Q } (start ["doc", "step"] vs) H) := by
  kernel_rfl
theorem r_has_part (K : PySem.W.Frag) (n : Nat) (vs : List V) (H : Hp) (Q : VK) (E : XK) : run (pg.tb K) (n + 1) d_has_part vs H Q E = (vs.length = 2 ∧ (tSeq (forA (tFor (iAny K (tVar 1)) (gName 2) (tSeq (tIfS (tNot (tTru (tCallS (run (pg.tb K) n d_goes_into) (WE (fun cls dd _ H' => E cls dd H')) (tCons (tVar 0) (tCons (tVar 2) tNil))))) (tRet (tC (.bl false))) tNext) (tAsg (tOp rIx (tVar 0) (tVar 2)) (gName 0))))) (tRet (tC (.bl true)))) { nx := fun _ H' => Q .non H', rt := Q } (start ["doc", "path", "step"] vs) H) := by
  kernel_rfl
theorem r_found_at (K : PySem.W.Frag) (n : Nat) (vs : List V) (H : Hp) (Q : VK) (E : XK) : run (pg.tb K) (n + 1) d_found_at vs H Q E = (vs.length = 2 ∧ (tSeq (tIfS (tNot (tTru (tCallS (run (pg.tb K) n d_has_part) (WE (fun cls dd _ H' => E cls dd H')) (tCons (tVar 0) (tCons (tVar 1) tNil))))) (fun _ σ H => (fun cls dd _ H' => E cls dd H') (.ref (He.ga K "NoPart")) none σ H) tNext) (tSeq (forA (tFor (iAny K (tVar 1)) (gName 2) (tAsg (tOp rIx (tVar 0) (tVar 2)) (gName 0)))) (tRet (tVar 0)))) { nx := fun _ H' => Q .non H', rt := Q } (start ["doc", "path", "step"] vs) H) := by
  kernel_rfl
theorem r_holder_at (K : PySem.W.Frag) (n : Nat) (vs : List V) (H : Hp) (Q : VK) (E : XK) : run (pg.tb K) (n + 1) d_holder_at vs H Q E = (vs.length = 2 ∧ (tSeq (tIfS (tTest (tOp (rCmp K .Eq) (tTB rLenA (tCons (tVar 1) tNil)) (tC (.int 0)))) (fun _ σ H => (fun cls dd _ H' => E cls dd H') (.ref (He.ga K "NoPart")) none σ H) tNext) (tRet (tCallS (run (pg.tb K) n d_found_at) (WE (fun cls dd _ H' => E cls dd H')) (tCons (tVar 0) (tCons (tSl rSl (tVar 1) tNoPart (tPart (tUn rNeg (tC (.int 1))))) tNil))))) { nx := fun _ H' => Q .non H', rt := Q } (start ["doc", "path"] vs) H) := by
  kernel_rfl
theorem r_changed_at (K : PySem.W.Frag) (n : Nat) (vs : List V) (H : Hp) (Q : VK) (E : XK) : run (pg.tb K) (n + 1) d_changed_at vs H Q E = (vs.length = 3 ∧ (tSeq (tIfS (tTest (tOp (rCmp K .Eq) (tTB rLenA (tCons (tVar 1) tNil)) (tC (.int 0)))) (tRet (tCallS (run (pg.tb K) n d_copy_of) (WE (fun cls dd _ H' => E cls dd H')) (tCons (tVar 2) tNil))) tNext) (tSeq (tAsg (tCallS (run (pg.tb K) n d_copy_of) (WE (fun cls dd _ H' => E cls dd H')) (tCons (tVar 0) tNil)) (gName 3)) (tSeq (tAsg (tCallS (run (pg.tb K) n d_holder_at) (WE (fun cls dd _ H' => E cls dd H')) (tCons (tVar 3) (tCons (tVar 1) tNil))) (gName 4)) (tSeq (tIfS (tNot (tTru (tCallS (run (pg.tb K) n d_goes_into) (WE (fun cls dd _ H' => E cls dd H')) (tCons (tVar 4) (tCons (tOp rIx (tVar 1) (tUn rNeg (tC (.int 1)))) tNil))))) (fun _ σ H => (fun cls dd _ H' => E cls dd H') (.ref (He.ga K "NoPart")) none σ H) tNext) (tSeq (tAsg (tCallS (run (pg.tb K) n d_copy_of) (WE (fun cls dd _ H' => E cls dd H')) (tCons (tVar 2) tNil)) (gSub (tVar 4) (tOp rIx (tVar 1) (tUn rNeg (tC (.int 1)))) rSet)) (tRet (tVar 3))))))) { nx := fun _ H' => Q .non H', rt := Q } (start ["doc", "path", "value", "made", "holder"] vs) H) := by
  kernel_rfl
theorem r_law_cell (K : PySem.W.Frag) (n : Nat) (vs : List V) (H : Hp) (Q : VK) (E : XK) : run (pg.tb K) (n + 1) d_law_cell vs H Q E = (vs.length = 2 ∧ (tSeq (tIfS (tTest (tOp (rCmp K .Lt) (tVar 1) (tTB rLenA (tCons (tVar 0) tNil)))) (tRet (tOp (rBin .Mod) (tOp rIx (tVar 0) (tVar 1)) (tOp (rBin .Mult) (tC (.int 8)) (tOp (rBin .Pow) (tC (.int 10)) (tC (.int 60)))))) tNext) (tRet (tOp (rBin .Add) (tC (.int 1001)) (tOp (rBin .Mult) (tC (.int 4)) (tVar 1))))) { nx := fun _ H' => Q .non H', rt := Q } (start ["script", "k"] vs) H) := by
  kernel_rfl
theorem r_law_mix (K : PySem.W.Frag) (n : Nat) (vs : List V) (H : Hp) (Q : VK) (E : XK) : run (pg.tb K) (n + 1) d_law_mix vs H Q E = (vs.length = 2 ∧ (tSeq (tIfS (tAnd (tTest (tOp (rCmp K .Eq) (tOp (rBin .Mod) (tVar 0) (tC (.int 4))) (tC (.int 0)))) (tTest (tOp (rCmp K .GtE) (tVar 0) (tOp (rBin .Mult) (tC (.int 4)) (tOp (rBin .Pow) (tC (.int 10)) (tC (.int 60))))))) (tSeq (tAsg (tOp (rBin .FloorDiv) (tVar 0) (tC (.int 4))) (gName 2)) (tSeq (forA (tFor (iRng1 (tCons (tVar 1) tNil)) (gName 3) (tAsg (tOp (rBin .FloorDiv) (tVar 2) (tC (.int 1000000))) (gName 2)))) (tRet (tOp (rBin .Mod) (tVar 2) (tC (.int 1000000)))))) tNext) (tSeq (tAsg (tOp (rBin .Mod) (tOp (rBin .Mult) (tOp (rBin .Add) (tVar 0) (tC (.int 3))) (tC (.int 1181783497276652981))) (tC (.int 2305843009213693951))) (gName 2)) (tSeq (tAsg (tOp (rBin .Mod) (tOp (rBin .Add) (tVar 2) (tOp (rBin .Mult) (tOp (rBin .Add) (tVar 1) (tC (.int 1))) (tC (.int 614889782588491411)))) (tC (.int 2305843009213693951))) (gName 2)) (tSeq (tAsg (tOp (rBin .Mod) (tOp (rBin .Mult) (tVar 2) (tVar 2)) (tC (.int 999999999999999989))) (gName 2)) (tSeq (tAsg (tOp (rBin .Mod) (tOp (rBin .Mult) (tOp (rBin .Add) (tVar 2) (tC (.int 1))) (tOp (rBin .Add) (tOp (rBin .FloorDiv) (tVar 2) (tC (.int 1000003))) (tC (.int 7)))) (tC (.int 2305843009213693951))) (gName 2)) (tRet (tOp (rBin .FloorDiv) (tVar 2) (tC (.int 7919))))))))) { nx := fun _ H' => Q .non H', rt := Q } (start ["cell", "k", "number", "j"] vs) H) := by
  kernel_rfl
theorem r_law_names (K : PySem.W.Frag) (n : Nat) (vs : List V) (H : Hp) (Q : VK) (E : XK) : run (pg.tb K) (n + 1) d_law_names vs H Q E = (vs.length = 1 ∧ (tSeq (tAsg (tC (.str "abcdefghijklmnopqrstuvwxyz")) (gName 1)) (tSeq (tAsg (lcA (tLc (iRng1 (tCons (tC (.int 4)) tNil)) (gName 3) tYes (tOp (rBin .Mod) (tCallS (run (pg.tb K) n d_law_mix) (WE W0) (tCons (tVar 0) (tCons (tVar 3) tNil))) (tC (.int 676))) [3])) (gName 2)) (tSeq (tAsg (tMt "join" (tC (.str "")) (tCons (lcA (tLc (iAny K (tVar 2)) (gName 5) tYes (tOp (rBin .Add) (tOp rIx (tVar 1) (tOp (rBin .Mod) (tVar 5) (tC (.int 26)))) (tOp rIx (tVar 1) (tOp (rBin .FloorDiv) (tVar 5) (tC (.int 26))))) [5])) tNil)) (gName 4)) (tSeq (tAsg (tOp (rBin .Add) (tC (.int 1)) (tOp (rBin .Mod) (tCallS (run (pg.tb K) n d_law_mix) (WE (fun cls dd _ H' => E cls dd H')) (tCons (tVar 0) (tCons (tC (.int 4)) tNil))) (tC (.int 8)))) (gName 6)) (tSeq (tAsg (tOp (rBin .Mod) (tCallS (run (pg.tb K) n d_law_mix) (WE (fun cls dd _ H' => E cls dd H')) (tCons (tVar 0) (tCons (tC (.int 5)) tNil))) (tVar 6)) (gName 7)) (tSeq (tAsg (tCallS (run (pg.tb K) n d_law_mix) (WE (fun cls dd _ H' => E cls dd H')) (tCons (tVar 0) (tCons (tC (.int 6)) tNil))) (gName 8)) (tSeq (tIfS (tTest (tOp (rCmp K .Eq) (tOp (rBin .Mod) (tCallS (run (pg.tb K) n d_law_mix) (WE (fun cls dd _ H' => E cls dd H')) (tCons (tVar 0) (tCons (tC (.int 7)) tNil))) (tC (.int 3))) (tC (.int 0)))) (tRet (lcA (tLc (iRng1 (tCons (tC (.int 6)) tNil)) (gName 3) tYes (tSl rSl (tVar 4) tNoPart (tPart (tOp (rBin .Add) (tOp (rBin .Add) (tVar 3) (tC (.int 1))) (tOp (rBin .Mod) (tVar 8) (tC (.int 3)))))) [3]))) tNext) (tSeq (tAsg (tLst tNil) (gName 9)) (tSeq (forA (tFor (iRng1 (tCons (tC (.int 6)) tNil)) (gName 3) (tSeq (tAsg (tOp rIx (tVar 1) (tOp (rBin .Mod) (tOp (rBin .Add) (tVar 8) (tOp (rBin .Mult) (tC (.int 5)) (tVar 3))) (tC (.int 26)))) (gName 10)) (tDrop (tMt "append" (tVar 9) (tCons (tOp (rBin .Add) (tOp (rBin .Add) (tSl rSl (tVar 4) tNoPart (tPart (tVar 7))) (tVar 10)) (tSl rSl (tVar 4) (tPart (tOp (rBin .Add) (tVar 7) (tC (.int 1)))) (tPart (tOp (rBin .Add) (tVar 6) (tOp (rBin .Mod) (tVar 3) (tC (.int 2))))))) tNil)))))) (tRet (tVar 9))))))))))) { nx := fun _ H' => Q .non H', rt := Q } (start ["cell", "letters", "pairs", "k", "word", "pair", "size", "at", "more", "names", "one"] vs) H) := by
  kernel_rfl
theorem r_law_leaf (K : PySem.W.Frag) (n : Nat) (vs : List V) (H : Hp) (Q : VK) (E : XK) : run (pg.tb K) (n + 1) d_law_leaf vs H Q E = (vs.length = 2 ∧ (tSeq (tAsg (tCallS (run (pg.tb K) n d_law_mix) (WE (fun cls dd _ H' => E cls dd H')) (tCons (tVar 0) (tCons (tVar 1) tNil))) (gName 2)) (tSeq (tAsg (tOp (rBin .Mod) (tVar 2) (tC (.int 3))) (gName 3)) (tSeq (tAsg (tOp (rBin .FloorDiv) (tVar 2) (tC (.int 3))) (gName 2)) (tSeq (tIfS (tTest (tOp (rCmp K .Eq) (tVar 3) (tC (.int 0)))) (tRet (tOp (rBin .Sub) (tOp (rBin .Mod) (tVar 2) (tC (.int 7))) (tC (.int 3)))) tNext) (tSeq (tIfS (tTest (tOp (rCmp K .Eq) (tVar 3) (tC (.int 1)))) (tRet (tSl rSl (tSl rSl (tC (.str "abcdefghijklmnopqrstuvwxyz")) (tPart (tOp (rBin .Mod) (tVar 2) (tC (.int 26)))) tNoPart) tNoPart (tPart (tOp (rBin .Mod) (tOp (rBin .FloorDiv) (tVar 2) (tC (.int 26))) (tC (.int 13)))))) tNext) (tRet (tOp (rBin .Mult) (tOp (rBin .Mult) (tOp (rBin .Sub) (tC (.int 1)) (tOp (rBin .Mult) (tOp (rBin .Mod) (tVar 2) (tC (.int 2))) (tC (.int 2)))) (tVar 2)) (tOp rIx (tLst (tCons (tC (.int 1)) (tCons (tOp (rBin .Pow) (tC (.int 10)) (tC (.int 14))) (tCons (tOp (rBin .Pow) (tC (.int 10)) (tC (.int 46))) tNil)))) (tOp (rBin .Mod) (tOp (rBin .FloorDiv) (tVar 2) (tC (.int 2))) (tC (.int 3))))))))))) { nx := fun _ H' => Q .non H', rt := Q } (start ["cell", "k", "number", "way"] vs) H) := by
  kernel_rfl
theorem r_law_part (K : PySem.W.Frag) (n : Nat) (vs : List V) (H : Hp) (Q : VK) (E : XK) : run (pg.tb K) (n + 1) d_law_part vs H Q E = (vs.length = 3 ∧ (tSeq (tAsg (tOp (rBin .Mod) (tCallS (run (pg.tb K) n d_law_mix) (WE (fun cls dd _ H' => E cls dd H')) (tCons (tVar 0) (tCons (tC (.int 2)) tNil))) (tC (.int 9))) (gName 3)) (tSeq (tIfS (tAnd (tTest (tOp (rCmp K .Lt) (tVar 3) (tC (.int 3)))) (tTest (tOp (rCmp K .Lt) (tVar 1) (tVar 2)))) (tRet (tLst tNil)) tNext) (tSeq (tIfS (tAnd (tTest (tOp (rCmp K .Lt) (tVar 3) (tC (.int 6)))) (tTest (tOp (rCmp K .Lt) (tVar 1) (tVar 2)))) (tRet tDNewK) tNext) (tRet (tCallS (run (pg.tb K) n d_law_leaf) (WE (fun cls dd _ H' => E cls dd H')) (tCons (tVar 0) (tCons (tC (.int 3)) tNil))))))) { nx := fun _ H' => Q .non H', rt := Q } (start ["cell", "deep", "most", "way"] vs) H) := by
  kernel_rfl
theorem r_law_laid (K : PySem.W.Frag) (n : Nat) (vs : List V) (H : Hp) (Q : VK) (E : XK) : run (pg.tb K) (n + 1) d_law_laid vs H Q E = (vs.length = 4 ∧ (tSeq (tIfS (tTru (tTB (rIsH K none) (tCons (tVar 0) (tCons (tC (.ty "list")) tNil)))) (tSeq (tDrop (tMt "insert" (tVar 0) (tCons (tOp (rBin .Mod) (tVar 3) (tOp (rBin .Add) (tTB rLenA (tCons (tVar 0) tNil)) (tC (.int 1)))) (tCons (tVar 1) tNil)))) (tRet (tC (.bl true)))) tNext) (tSeq (tAsg (lcA (tLc (iAny K (tVar 2)) (gName 5) (tTest (tOp (rCmp K .NotIn) (tVar 5) (tVar 0))) (tVar 5) [5])) (gName 4)) (tSeq (tIfS (tTest (tOp (rCmp K .Eq) (tVar 4) (tLst tNil))) (tRet (tC (.bl false))) tNext) (tSeq (tAsg (tVar 1) (gSub (tVar 0) (tOp rIx (tVar 4) (tOp (rBin .Mod) (tVar 3) (tTB rLenA (tCons (tVar 4) tNil)))) rSet)) (tRet (tC (.bl true))))))) { nx := fun _ H' => Q .non H', rt := Q } (start ["holder", "part", "names", "number", "left", "name"] vs) H) := by
  kernel_rfl
theorem r_law_doc (K : PySem.W.Frag) (n : Nat) (vs : List V) (H : Hp) (Q : VK) (E : XK) : run (pg.tb K) (n + 1) d_law_doc vs H Q E = (vs.length = 3 ∧ (tSeq (tAsg (tCallS (run (pg.tb K) n d_law_cell) (WE (fun cls dd _ H' => E cls dd H')) (tCons (tVar 0) (tCons (tVar 1) tNil))) (gName 3)) (tSeq (tAsg (tOp rIx (tLst (tCons (tC (.int 4)) (tCons (tC (.int 4)) (tCons (tC (.int 4)) (tCons (tC (.int 16)) tNil))))) (tOp (rBin .Mod) (tCallS (run (pg.tb K) n d_law_mix) (WE (fun cls dd _ H' => E cls dd H')) (tCons (tVar 3) (tCons (tC (.int 4)) tNil))) (tC (.int 4)))) (gName 4)) (tSeq (tAsg (tCallS (run (pg.tb K) n d_law_part) (WE (fun cls dd _ H' => E cls dd H')) (tCons (tVar 3) (tCons (tC (.int 0)) (tCons (tVar 4) tNil)))) (gName 5)) (tSeq (tAsg (tLst tNil) (gName 6)) (tSeq (tIfS (tTru (tTB (rIsH K none) (tCons (tVar 5) (tCons (tTup (tCons (tC (.ty "list")) (tCons (tC (.ty "dict")) tNil))) tNil)))) (tDrop (tMt "append" (tVar 6) (tCons (tTup (tCons (tVar 5) (tCons (tC (.int 1)) tNil))) tNil))) tNext) (tSeq (tAsg (tC (.int 1)) (gName 7)) (tSeq (forA (tFor (iRng2 (tCons (tC (.int 1)) (tCons (tTB rMax (tCons (tC (.int 3)) (tCons (tTB rMin (tCons (tC (.int 24)) (tCons (tOp (rBin .Sub) (tTB rLenA (tCons (tVar 0) tNil)) (tVar 1)) tNil))) tNil))) tNil))) (gName 8) (tSeq (tAsg (tCallS (run (pg.tb K) n d_law_cell) (WE (fun cls dd _ H' => E cls dd H')) (tCons (tVar 0) (tCons (tOp (rBin .Add) (tVar 1) (tVar 8)) tNil))) (gName 9)) (tIfS (tTest (tOp (rCmp K .NotEq) (tVar 6) (tLst tNil))) (tSeq (tAsg (tOp rIx (tVar 6) (tOp (rBin .Sub) (tOp (rBin .Sub) (tTB rLenA (tCons (tVar 6) tNil)) (tC (.int 1))) (tOp (rBin .Mod) (tOp (rBin .Mod) (tCallS (run (pg.tb K) n d_law_mix) (WE (fun cls dd _ H' => E cls dd H')) (tCons (tVar 9) (tCons (tC (.int 0)) tNil))) (tTB rLenA (tCons (tVar 6) tNil))) (tOp rIx (tLst (tCons (tC (.int 40)) (tCons (tC (.int 2)) tNil))) (tOp (rBin .FloorDiv) (tVar 4) (tC (.int 16))))))) (gTup K 2 (gCons (gName 10) (gCons (gName 11) gNil)))) (tSeq (tAsg (tCallS (run (pg.tb K) n d_law_part) (WE (fun cls dd _ H' => E cls dd H')) (tCons (tVar 9) (tCons (tVar 11) (tCons (tVar 4) tNil)))) (gName 12)) (tIfS (tTru (tCallS (run (pg.tb K) n d_law_laid) (WE (fun cls dd _ H' => E cls dd H')) (tCons (tVar 10) (tCons (tVar 12) (tCons (tVar 2) (tCons (tCallS (run (pg.tb K) n d_law_mix) (WE (fun cls dd _ H' => E cls dd H')) (tCons (tVar 9) (tCons (tC (.int 1)) tNil))) tNil)))))) (tSeq (tAsg (tOp (rBin .Add) (tVar 7) (tC (.int 1))) (gName 7)) (tIfS (tTru (tTB (rIsH K none) (tCons (tVar 12) (tCons (tTup (tCons (tC (.ty "list")) (tCons (tC (.ty "dict")) tNil))) tNil)))) (tDrop (tMt "append" (tVar 6) (tCons (tTup (tCons (tVar 12) (tCons (tOp (rBin .Add) (tVar 11) (tC (.int 1))) tNil))) tNil))) tNext)) tNext))) tNext)))) (tRet (tTup (tCons (tVar 5) (tCons (tVar 7) tNil))))))))))) { nx := fun _ H' => Q .non H', rt := Q } (start ["script", "start", "names", "first", "most", "doc", "holders", "many", "k", "cell", "holder", "deep", "part"] vs) H) := by
  kernel_rfl
theorem r_law_copy (K : PySem.W.Frag) (n : Nat) (vs : List V) (H : Hp) (Q : VK) (E : XK) : run (pg.tb K) (n + 1) d_law_copy vs H Q E = (vs.length = 1 ∧ (tSeq (tIfS (tTru (tTB (rIsH K none) (tCons (tVar 0) (tCons (tC (.ty "list")) tNil)))) (tRet (lcA (tLc (iAny K (tVar 0)) (gName 1) tYes (tCallS (run (pg.tb K) n d_law_copy) (WE W0) (tCons (tVar 1) tNil)) [1]))) tNext) (tSeq (tIfS (tTru (tTB (rIsH K none) (tCons (tVar 0) (tCons (tC (.ty "dict")) tNil)))) (tRet (tTB rDict (tCons (lcA (tLc (iAny K (tVar 0)) (gName 2) tYes (tTup (tCons (tVar 2) (tCons (tCallS (run (pg.tb K) n d_law_copy) (WE W0) (tCons (tOp rIx (tVar 0) (tVar 2)) tNil)) tNil))) [2])) tNil))) tNext) (tRet (tVar 0)))) { nx := fun _ H' => Q .non H', rt := Q } (start ["doc", "one", "name"] vs) H) := by
  kernel_rfl
theorem r_law_alike (K : PySem.W.Frag) (n : Nat) (vs : List V) (H : Hp) (Q : VK) (E : XK) : run (pg.tb K) (n + 1) d_law_alike vs H Q E = (vs.length = 2 ∧ (tSeq (tIfS (tTru (tTB (rIsH K none) (tCons (tVar 0) (tCons (tC (.ty "list")) tNil)))) (tSeq (tIfS (tOr (tNot (tTru (tTB (rIsH K none) (tCons (tVar 1) (tCons (tC (.ty "list")) tNil))))) (tTest (tOp (rCmp K .NotEq) (tTB rLenA (tCons (tVar 0) tNil)) (tTB rLenA (tCons (tVar 1) tNil))))) (tRet (tC (.bl false))) tNext) (tRet (tTB rAll (tCons (lcA (tLc (iRng1 (tCons (tTB rLenA (tCons (tVar 0) tNil)) tNil)) (gName 2) tYes (tCallS (run (pg.tb K) n d_law_alike) (WE W0) (tCons (tOp rIx (tVar 0) (tVar 2)) (tCons (tOp rIx (tVar 1) (tVar 2)) tNil))) [2])) tNil)))) tNext) (tSeq (tIfS (tTru (tTB (rIsH K none) (tCons (tVar 0) (tCons (tC (.ty "dict")) tNil)))) (tSeq (tIfS (tOr (tNot (tTru (tTB (rIsH K none) (tCons (tVar 1) (tCons (tC (.ty "dict")) tNil))))) (tTest (tOp (rCmp K .NotEq) (tTB rSrtA (tCons (tVar 0) tNil)) (tTB rSrtA (tCons (tVar 1) tNil))))) (tRet (tC (.bl false))) tNext) (tRet (tTB rAll (tCons (lcA (tLc (iAny K (tVar 0)) (gName 3) tYes (tCallS (run (pg.tb K) n d_law_alike) (WE W0) (tCons (tOp rIx (tVar 0) (tVar 3)) (tCons (tOp rIx (tVar 1) (tVar 3)) tNil))) [3])) tNil)))) tNext) (tSeq (tIfS (tTru (tTB (rIsH K none) (tCons (tVar 0) (tCons (tC (.ty "str")) tNil)))) (tRet (tAndV (tTB (rIsH K none) (tCons (tVar 1) (tCons (tC (.ty "str")) tNil))) (tOp (rCmp K .Eq) (tVar 0) (tVar 1)))) tNext) (tRet (tAndV (tTB (rIsH K none) (tCons (tVar 1) (tCons (tC (.ty "int")) tNil))) (tAndV (tNotV (tTB (rIsH K none) (tCons (tVar 1) (tCons (tC (.ty "bool")) tNil)))) (tOp (rCmp K .Eq) (tVar 0) (tVar 1)))))))) { nx := fun _ H' => Q .non H', rt := Q } (start ["one", "other", "k", "name"] vs) H) := by
  kernel_rfl
theorem r_law_paths (K : PySem.W.Frag) (n : Nat) (vs : List V) (H : Hp) (Q : VK) (E : XK) : run (pg.tb K) (n + 1) d_law_paths vs H Q E = (vs.length = 2 ∧ (tSeq (tAsg (tLst (tCons (tVar 1) tNil)) (gName 2)) (tSeq (tIfS (tTru (tTB (rIsH K none) (tCons (tVar 0) (tCons (tC (.ty "list")) tNil)))) (forA (tFor (iRng1 (tCons (tTB rLenA (tCons (tVar 0) tNil)) tNil)) (gName 3) (tDrop (tMt "extend" (tVar 2) (tCons (tCallS (run (pg.tb K) n d_law_paths) (WE (fun cls dd _ H' => E cls dd H')) (tCons (tOp rIx (tVar 0) (tVar 3)) (tCons (tOp (rBin .Add) (tVar 1) (tTup (tCons (tVar 3) tNil))) tNil))) tNil))))) tNext) (tSeq (tIfS (tTru (tTB (rIsH K none) (tCons (tVar 0) (tCons (tC (.ty "dict")) tNil)))) (forA (tFor (iAny K (tTB rSrtA (tCons (tVar 0) tNil))) (gName 4) (tDrop (tMt "extend" (tVar 2) (tCons (tCallS (run (pg.tb K) n d_law_paths) (WE (fun cls dd _ H' => E cls dd H')) (tCons (tOp rIx (tVar 0) (tVar 4)) (tCons (tOp (rBin .Add) (tVar 1) (tTup (tCons (tVar 4) tNil))) tNil))) tNil))))) tNext) (tRet (tVar 2))))) { nx := fun _ H' => Q .non H', rt := Q } (start ["doc", "ahead", "found", "k", "name"] vs) H) := by
  kernel_rfl
theorem r_law_at (K : PySem.W.Frag) (n : Nat) (vs : List V) (H : Hp) (Q : VK) (E : XK) : run (pg.tb K) (n + 1) d_law_at vs H Q E = (vs.length = 2 ∧ (tSeq (forA (tFor (iAny K (tVar 1)) (gName 2) (tAsg (tOp rIx (tVar 0) (tVar 2)) (gName 0)))) (tRet (tVar 0))) { nx := fun _ H' => Q .non H', rt := Q } (start ["doc", "path", "step"] vs) H) := by
  kernel_rfl
theorem r_law_stands (K : PySem.W.Frag) (n : Nat) (vs : List V) (H : Hp) (Q : VK) (E : XK) : run (pg.tb K) (n + 1) d_law_stands vs H Q E = (vs.length = 2 ∧ (tSeq (forA (tFor (iAny K (tVar 1)) (gName 2) (tSeq (tIfS (tTru (tTB (rIsH K none) (tCons (tVar 2) (tCons (tC (.ty "str")) tNil)))) (tIfS (tOr (tNot (tTru (tTB (rIsH K none) (tCons (tVar 0) (tCons (tC (.ty "dict")) tNil))))) (tTest (tOp (rCmp K .NotIn) (tVar 2) (tVar 0)))) (tRet (tC (.bl false))) tNext) (tIfS (tOr (tNot (tTru (tTB (rIsH K none) (tCons (tVar 0) (tCons (tC (.ty "list")) tNil))))) (tTest (tOp (rCmp K .GtE) (tVar 2) (tTB rLenA (tCons (tVar 0) tNil))))) (tRet (tC (.bl false))) tNext)) (tAsg (tOp rIx (tVar 0) (tVar 2)) (gName 0))))) (tRet (tC (.bl true)))) { nx := fun _ H' => Q .non H', rt := Q } (start ["doc", "path", "step"] vs) H) := by
  kernel_rfl
theorem r_law_value (K : PySem.W.Frag) (n : Nat) (vs : List V) (H : Hp) (Q : VK) (E : XK) : run (pg.tb K) (n + 1) d_law_value vs H Q E = (vs.length = 2 ∧ (tSeq (tAsg (tCallS (run (pg.tb K) n d_law_leaf) (WE (fun cls dd _ H' => E cls dd H')) (tCons (tVar 0) (tCons (tC (.int 9)) tNil))) (gName 2)) (tSeq (tAsg (tLst (tCons (tVar 2) (tCons (tVar 2) (tCons (tLst tNil) (tCons tDNewK (tCons (tLst (tCons (tVar 2) (tCons (tLst tNil) tNil))) (tCons (tDisp [((tOp rIx (tVar 1) (tC (.int 0))), (tVar 2))]) (tCons (tLst (tCons (tDisp [((tOp rIx (tVar 1) (tC (.int 1))), (tLst (tCons (tVar 2) tNil)))]) (tCons (tVar 2) tNil))) (tCons (tDisp [((tOp rIx (tVar 1) (tC (.int 1))), (tLst tNil)), ((tOp rIx (tVar 1) (tC (.int 2))), (tVar 2))]) tNil))))))))) (gName 3)) (tRet (tOp rIx (tVar 3) (tOp (rBin .Mod) (tCallS (run (pg.tb K) n d_law_mix) (WE (fun cls dd _ H' => E cls dd H')) (tCons (tVar 0) (tCons (tC (.int 8)) tNil))) (tC (.int 8))))))) { nx := fun _ H' => Q .non H', rt := Q } (start ["cell", "names", "one", "some"] vs) H) := by
  kernel_rfl
theorem r_law_changed (K : PySem.W.Frag) (n : Nat) (vs : List V) (H : Hp) (Q : VK) (E : XK) : run (pg.tb K) (n + 1) d_law_changed vs H Q E = (vs.length = 3 ∧ (tSeq (tIfS (tNot (tTru (tCallS (run (pg.tb K) n d_law_stands) (WE (fun cls dd _ H' => E cls dd H')) (tCons (tVar 0) (tCons (tVar 1) tNil))))) (tRet (tC .non)) tNext) (tSeq (tIfS (tTest (tOp (rCmp K .Eq) (tVar 1) (tTup tNil))) (tRet (tTup (tCons (tCallS (run (pg.tb K) n d_law_copy) (WE (fun cls dd _ H' => E cls dd H')) (tCons (tVar 2) tNil)) tNil))) tNext) (tSeq (tAsg (tCallS (run (pg.tb K) n d_law_copy) (WE (fun cls dd _ H' => E cls dd H')) (tCons (tVar 0) tNil)) (gName 3)) (tSeq (tAsg (tCallS (run (pg.tb K) n d_law_at) (WE (fun cls dd _ H' => E cls dd H')) (tCons (tVar 3) (tCons (tSl rSl (tVar 1) tNoPart (tPart (tUn rNeg (tC (.int 1))))) tNil))) (gName 4)) (tSeq (tAsg (tCallS (run (pg.tb K) n d_law_copy) (WE (fun cls dd _ H' => E cls dd H')) (tCons (tVar 2) tNil)) (gSub (tVar 4) (tOp rIx (tVar 1) (tUn rNeg (tC (.int 1)))) rSet)) (tRet (tTup (tCons (tVar 3) tNil)))))))) { nx := fun _ H' => Q .non H', rt := Q } (start ["doc", "path", "value", "told", "row"] vs) H) := by
  kernel_rfl
theorem r_law_no_part (K : PySem.W.Frag) (n : Nat) (vs : List V) (H : Hp) (Q : VK) (E : XK) : run (pg.tb K) (n + 1) d_law_no_part vs H Q E = (vs.length = 1 ∧ (tSeq (tAsg (tLst (tCons (tTB (rIsH K none) (tCons (tVar 0) (tCons (tC (.ref (He.ga K "NoRow"))) tNil))) (tCons (tTB (rIsH K none) (tCons (tVar 0) (tCons (tC (.ref (He.ga K "NoFit"))) tNil))) (tCons (tTB (rIsH K none) (tCons (tVar 0) (tCons (tC (.ref (He.ga K "NoPatch"))) tNil))) (tCons (tTB (rIsH K none) (tCons (tVar 0) (tCons (tC (.ref (He.ga K "Clash"))) tNil))) tNil))))) (gName 1)) (tSeq (tAsg (tOp (rBin .Add) (tVar 1) (tLst (tCons (tTB (rIsH K none) (tCons (tVar 0) (tCons (tC (.ref (He.ga K "NoText"))) tNil))) (tCons (tTB (rIsH K none) (tCons (tVar 0) (tCons (tC (.ref (He.ga K "NoDeed"))) tNil))) tNil)))) (gName 1)) (tRet (tAndV (tTB (rIsH K none) (tCons (tVar 0) (tCons (tC (.ref (He.ga K "NoPart"))) tNil))) (tAndV (tTB (rIsH K none) (tCons (tVar 0) (tCons (tC (.ty "ValueError")) tNil))) (tOp (rCmp K .NotIn) (tC (.bl true)) (tVar 1))))))) { nx := fun _ H' => Q .non H', rt := Q } (start ["e", "some"] vs) H) := by
  kernel_rfl
theorem r_law_more (K : PySem.W.Frag) (n : Nat) (vs : List V) (H : Hp) (Q : VK) (E : XK) : run (pg.tb K) (n + 1) d_law_more vs H Q E = (vs.length = 4 ∧ (tSeq (tAsg (tCallS (run (pg.tb K) n d_law_at) (WE (fun cls dd _ H' => E cls dd H')) (tCons (tVar 0) (tCons (tVar 1) tNil))) (gName 4)) (tSeq (tAsg (tC (.int 0)) (gName 5)) (tSeq (tIfS (tTru (tTB (rIsH K none) (tCons (tVar 4) (tCons (tC (.ty "list")) tNil)))) (tAsg (tTB rLenA (tCons (tVar 4) tNil)) (gName 5)) tNext) (tSeq (tAsg (tCallS (run (pg.tb K) n d_law_mix) (WE (fun cls dd _ H' => E cls dd H')) (tCons (tVar 3) (tCons (tC (.int 5)) tNil))) (gName 6)) (tSeq (tAsg (tOp rIx (tVar 2) (tOp (rBin .Mod) (tVar 6) (tC (.int 6)))) (gName 7)) (tSeq (tAsg (tOp rIx (tLst (tCons (tC (.int 1000)) (tCons (tOp (rBin .Add) (tVar 5) (tC (.int 7))) (tCons (tOp (rBin .Pow) (tC (.int 10)) (tC (.int 30))) (tCons (tOp (rBin .Sub) (tOp (rBin .Pow) (tC (.int 10)) (tC (.int 60))) (tC (.int 1))) tNil))))) (tOp (rBin .Mod) (tOp (rBin .FloorDiv) (tVar 6) (tC (.int 6))) (tC (.int 4)))) (gName 8)) (tSeq (tAsg (tOp rIx (tLst (tCons (tVar 5) (tCons (tOp (rBin .Add) (tVar 5) (tC (.int 1))) (tCons (tTB rMax (tCons (tC (.int 0)) (tCons (tOp (rBin .Sub) (tVar 5) (tC (.int 1))) tNil))) (tCons (tVar 7) (tCons (tVar 7) (tCons (tOp (rBin .Mod) (tOp (rBin .FloorDiv) (tVar 6) (tC (.int 6))) (tC (.int 9))) (tCons (tVar 8) tNil)))))))) (tOp (rBin .Mod) (tCallS (run (pg.tb K) n d_law_mix) (WE (fun cls dd _ H' => E cls dd H')) (tCons (tVar 3) (tCons (tC (.int 4)) tNil))) (tC (.int 7)))) (gName 9)) (tSeq (tIfS (tTest (tOp (rCmp K .Eq) (tOp (rBin .Mod) (tOp (rBin .FloorDiv) (tCallS (run (pg.tb K) n d_law_mix) (WE (fun cls dd _ H' => E cls dd H')) (tCons (tVar 3) (tCons (tC (.int 4)) tNil))) (tC (.int 7))) (tC (.int 3))) (tC (.int 0)))) (tRet (tOp (rBin .Add) (tVar 1) (tTup (tCons (tVar 9) (tCons (tOp rIx (tLst (tCons (tC (.int 0)) (tCons (tVar 7) (tCons (tVar 5) tNil)))) (tOp (rBin .Mod) (tOp (rBin .FloorDiv) (tVar 6) (tC (.int 216))) (tC (.int 3)))) tNil))))) tNext) (tRet (tOp (rBin .Add) (tVar 1) (tTup (tCons (tVar 9) tNil)))))))))))) { nx := fun _ H' => Q .non H', rt := Q } (start ["doc", "path", "names", "cell", "part", "many", "number", "name", "far", "step"] vs) H) := by
  kernel_rfl
theorem r_law_spoil (K : PySem.W.Frag) (n : Nat) (vs : List V) (H : Hp) (Q : VK) (E : XK) : run (pg.tb K) (n + 1) d_law_spoil vs H Q E = (vs.length = 1 ∧ (tSeq (tIfS (tTru (tTB (rIsH K none) (tCons (tVar 0) (tCons (tC (.ty "list")) tNil)))) (tSeq (forA (tFor (iAny K (tVar 0)) (gName 1) (tDrop (tCallS (run (pg.tb K) n d_law_spoil) (WE (fun cls dd _ H' => E cls dd H')) (tCons (tVar 1) tNil))))) (tDrop (tMt "append" (tVar 0) (tCons (tC (.str "zz")) tNil)))) tNext) (tIfS (tTru (tTB (rIsH K none) (tCons (tVar 0) (tCons (tC (.ty "dict")) tNil)))) (tSeq (forA (tFor (iAny K (tVar 0)) (gName 2) (tDrop (tCallS (run (pg.tb K) n d_law_spoil) (WE (fun cls dd _ H' => E cls dd H')) (tCons (tOp rIx (tVar 0) (tVar 2)) tNil))))) (tAsg (tC (.int 7)) (gSub (tVar 0) (tC (.str "zz")) rSet))) tNext)) { nx := fun _ H' => Q .non H', rt := Q } (start ["doc", "one", "name"] vs) H) := by
  kernel_rfl
theorem r_law_asked (K : PySem.W.Frag) (n : Nat) (vs : List V) (H : Hp) (Q : VK) (E : XK) : run (pg.tb K) (n + 1) d_law_asked vs H Q E = (vs.length = 3 ∧ (tSeq (fun D σ H => (tAsg (tCallS (run (pg.tb K) n d_changed_at) (WE (wAs K (.ref (He.ga K "BoughError")) 4 (fun a cls d => (tRet (tOp rIx (tLst (tCons (tC (.str "odd")) (tCons (tC .non) tNil))) (tTB rInt (tCons (tCallS (hotSp K n (a, cls, d) d_law_no_part) (WE W0) (tCons (tVar 4) tNil)) tNil))))) (fun cls dd _ H' => E cls dd H') D)) (tCons (tVar 0) (tCons (tVar 1) (tCons (tVar 2) tNil)))) (gName 3)) D σ H) (tRet (tTup (tCons (tVar 3) tNil)))) { nx := fun _ H' => Q .non H', rt := Q } (start ["doc", "path", "value", "found", "e"] vs) H) := by
  kernel_rfl
theorem r_law_right (K : PySem.W.Frag) (n : Nat) (vs : List V) (H : Hp) (Q : VK) (E : XK) : run (pg.tb K) (n + 1) d_law_right vs H Q E = (vs.length = 3 ∧ (tSeq (tAsg (tCallS (run (pg.tb K) n d_law_changed) (WE (fun cls dd _ H' => E cls dd H')) (tCons (tVar 0) (tCons (tVar 1) (tCons (tVar 2) tNil)))) (gName 3)) (tSeq (tAsg (tLst (tCons (tCallS (run (pg.tb K) n d_law_copy) (WE (fun cls dd _ H' => E cls dd H')) (tCons (tVar 0) tNil)) (tCons (tCallS (run (pg.tb K) n d_law_copy) (WE (fun cls dd _ H' => E cls dd H')) (tCons (tVar 2) tNil)) tNil))) (gName 4)) (tSeq (forA (tFor (iRng1 (tCons (tC (.int 2)) tNil)) (gName 5) (tSeq (tAsg (tCallS (run (pg.tb K) n d_law_asked) (WE (fun cls dd _ H' => E cls dd H')) (tCons (tVar 0) (tCons (tVar 1) (tCons (tVar 2) tNil)))) (gName 6)) (tSeq (tIfS (tOr (tAnd (tTest (tOp (rCmp K .Is) (tVar 3) (tC .non))) (tTest (tOp (rCmp K .IsNot) (tVar 6) (tC .non)))) (tAnd (tTest (tOp (rCmp K .IsNot) (tVar 3) (tC .non))) (tNot (tTru (tTB (rIsH K none) (tCons (tVar 6) (tCons (tC (.ty "tuple")) tNil))))))) (tRet (tC (.bl false))) tNext) (tSeq (tIfS (tTest (tOp (rCmp K .IsNot) (tVar 3) (tC .non))) (tSeq (tIfS (tNot (tTru (tCallS (run (pg.tb K) n d_law_alike) (WE (fun cls dd _ H' => E cls dd H')) (tCons (tOp rIx (tVar 3) (tC (.int 0))) (tCons (tOp rIx (tVar 6) (tC (.int 0))) tNil))))) (tRet (tC (.bl false))) tNext) (tDrop (tCallS (run (pg.tb K) n d_law_spoil) (WE (fun cls dd _ H' => E cls dd H')) (tCons (tOp rIx (tVar 6) (tC (.int 0))) tNil)))) tNext) (tIfS (tOr (tNot (tTru (tCallS (run (pg.tb K) n d_law_alike) (WE (fun cls dd _ H' => E cls dd H')) (tCons (tOp rIx (tVar 4) (tC (.int 0))) (tCons (tVar 0) tNil))))) (tNot (tTru (tCallS (run (pg.tb K) n d_law_alike) (WE (fun cls dd _ H' => E cls dd H')) (tCons (tOp rIx (tVar 4) (tC (.int 1))) (tCons (tVar 2) tNil)))))) (tRet (tC (.bl false))) tNext)))))) (tRet (tC (.bl true)))))) { nx := fun _ H' => Q .non H', rt := Q } (start ["doc", "path", "value", "due", "kept", "k", "found"] vs) H) := by
  kernel_rfl
theorem r_law (K : PySem.W.Frag) (n : Nat) (vs : List V) (H : Hp) (Q : VK) (E : XK) : run (pg.tb K) (n + 1) d_law vs H Q E = (vs.length = 1 ∧ (tSeq (tAsg (tCallS (run (pg.tb K) n d_law_names) (WE (fun cls dd _ H' => E cls dd H')) (tCons (tCallS (run (pg.tb K) n d_law_cell) (WE (fun cls dd _ H' => E cls dd H')) (tCons (tVar 0) (tCons (tC (.int 0)) tNil))) tNil)) (gName 1)) (tSeq (tAsg (tCallS (run (pg.tb K) n d_law_doc) (WE (fun cls dd _ H' => E cls dd H')) (tCons (tVar 0) (tCons (tC (.int 4)) (tCons (tVar 1) tNil)))) (gTup K 2 (gCons (gName 2) (gCons (gName 3) gNil)))) (tSeq (tAsg (tCallS (run (pg.tb K) n d_law_cell) (WE (fun cls dd _ H' => E cls dd H')) (tCons (tVar 0) (tCons (tC (.int 1)) tNil))) (gName 4)) (tSeq (tAsg (tCallS (run (pg.tb K) n d_law_paths) (WE (fun cls dd _ H' => E cls dd H')) (tCons (tVar 2) (tCons (tTup tNil) tNil))) (gName 5)) (tSeq (tAsg (tCallS (run (pg.tb K) n d_law_value) (WE (fun cls dd _ H' => E cls dd H')) (tCons (tVar 4) (tCons (tVar 1) tNil))) (gName 6)) (tSeq (tIfS (tTest (tOp (rCmp K .Eq) (tOp (rBin .Mod) (tCallS (run (pg.tb K) n d_law_mix) (WE (fun cls dd _ H' => E cls dd H')) (tCons (tVar 4) (tCons (tC (.int 7)) tNil))) (tC (.int 3))) (tC (.int 0)))) (tAsg (tCallS (run (pg.tb K) n d_law_at) (WE (fun cls dd _ H' => E cls dd H')) (tCons (tVar 2) (tCons (tOp rIx (tVar 5) (tOp (rBin .Mod) (tCallS (run (pg.tb K) n d_law_mix) (WE (fun cls dd _ H' => E cls dd H')) (tCons (tVar 4) (tCons (tC (.int 6)) tNil))) (tTB rLenA (tCons (tVar 5) tNil)))) tNil))) (gName 6)) tNext) (tSeq (forA (tFor (iRng1 (tCons (tTB rLenA (tCons (tVar 5) tNil)) tNil)) (gName 7) (tSeq (tIfS (tNot (tTru (tCallS (run (pg.tb K) n d_law_right) (WE (fun cls dd _ H' => E cls dd H')) (tCons (tVar 2) (tCons (tOp rIx (tVar 5) (tVar 7)) (tCons (tVar 6) tNil)))))) (tRet (tC (.bl false))) tNext) (tIfS (tNot (tTru (tCallS (run (pg.tb K) n d_law_right) (WE (fun cls dd _ H' => E cls dd H')) (tCons (tVar 2) (tCons (tCallS (run (pg.tb K) n d_law_more) (WE (fun cls dd _ H' => E cls dd H')) (tCons (tVar 2) (tCons (tOp rIx (tVar 5) (tVar 7)) (tCons (tVar 1) (tCons (tOp (rBin .Add) (tVar 4) (tOp (rBin .Mult) (tC (.int 7)) (tVar 7))) tNil))))) (tCons (tVar 6) tNil)))))) (tRet (tC (.bl false))) tNext)))) (tRet (tOp (rCmp K .Eq) (tTB rLenA (tCons (tVar 5) tNil)) (tVar 3)))))))))) { nx := fun _ H' => Q .non H', rt := Q } (start ["script", "names", "doc", "many", "cell", "paths", "value", "k"] vs) H) := by
  kernel_rfl
end K23
end
section
set_option Elab.async false
set_option maxRecDepth 100000
set_option maxHeartbeats 1000000
namespace RD
open PySem PySem.Spec PyProof.Rows L2
/-! ## places in a document -/
inductive Stp where
  | ix (n : Nat)
  | nm (s : Str)
def Stp.v : Stp → V
  | .ix n => .int (n : Nat)
  | .nm s => .str s
def kid : Doc → Stp → Option Doc
  | .row ds, .ix n => ds[n]?
  | .tab ks, .nm s => lkK ks s
  | _, _ => none
def sub : Doc → List Stp → Option Doc
  | d, [] => some d
  | d, s :: p => (kid d s).bind fun c => sub c p
/-- the first of that name gets e -/
def putD : List (Str × Doc) → Str → Doc → List (Str × Doc)
  | [], _, _ => []
  | (k, d) :: r, s, e => if k = s then (k, e) :: r else (k, d) :: putD r s e
def putKid : Doc → Stp → Doc → Doc
  | .row ds, .ix n, e => .row (ds.set n e)
  | .tab ks, .nm s, e => .tab (putD ks s e)
  | d, _, _ => d
def put : Doc → List Stp → Doc → Doc
  | _, [], e => e
  | d, s :: p, e => match kid d s with
    | some c => putKid d s (put c p e)
    | none => d
mutual
/-- how many parts -/
def parts : Doc → Nat
  | .num _ => 1
  | .txt _ => 1
  | .row ds => cntL ds + 1
  | .tab ks => cntK ks + 1
def cntL : List Doc → Nat
  | [] => 0
  | d :: r => parts d + cntL r
def cntK : List (Str × Doc) → Nat
  | [] => 0
  | (_, d) :: r => parts d + cntK r
end
mutual
/-- names differ, all through -/
def nd : Doc → Prop
  | .num _ => True
  | .txt _ => True
  | .row ds => ndL ds
  | .tab ks => (ks.map (·.1)).Nodup ∧ ndK ks
def ndL : List Doc → Prop
  | [] => True
  | d :: r => nd d ∧ ndL r
def ndK : List (Str × Doc) → Prop
  | [] => True
  | (_, d) :: r => nd d ∧ ndK r
end
theorem parts_pos : ∀ d : Doc, 1 ≤ parts d
  | .num _ => Nat.le_refl _
  | .txt _ => Nat.le_refl _
  | .row _ => by rw [parts]; omega
  | .tab _ => by rw [parts]; omega
theorem len_cntL : ∀ ds : List Doc, ds.length ≤ cntL ds
  | [] => Nat.le_refl _
  | d :: r => by
    have := len_cntL r
    have := parts_pos d
    rw [cntL, List.length_cons]
    omega
theorem len_cntK : ∀ ds : List (Str × Doc), ds.length ≤ cntK ds
  | [] => Nat.le_refl _
  | (_, d) :: r => by
    have := len_cntK r
    have := parts_pos d
    rw [cntK, List.length_cons]
    omega
mutual
theorem depth_cnt : ∀ d : Doc, d.depth ≤ parts d
  | .num _ => Nat.zero_le _
  | .txt _ => Nat.zero_le _
  | .row ds => by have := depthL_cnt ds; rw [Doc.depth, parts]; omega
  | .tab ks => by have := depthK_cnt ks; rw [Doc.depth, parts]; omega
theorem depthL_cnt : ∀ ds : List Doc, depthL ds ≤ cntL ds
  | [] => Nat.le_refl _
  | d :: r => by have := depth_cnt d; have := depthL_cnt r; rw [depthL, cntL]; omega
theorem depthK_cnt : ∀ ds : List (Str × Doc), depthK ds ≤ cntK ds
  | [] => Nat.le_refl _
  | (_, d) :: r => by have := depth_cnt d; have := depthK_cnt r; rw [depthK, cntK]; omega
end
mutual
theorem wf_cnt : ∀ d : Doc, nd d → parts d ≤ 60 → d.wf
  | .num _, _, _ => trivial
  | .txt _, _, _ => trivial
  | .row ds, h, c => by
    rw [nd] at h
    rw [parts] at c
    have := len_cntL ds
    rw [Doc.wf]
    exact ⟨by omega, wfL_cnt ds h (by omega)⟩
  | .tab ks, h, c => by
    rw [nd] at h
    rw [parts] at c
    have := len_cntK ks
    rw [Doc.wf]
    exact ⟨by omega, h.1, wfK_cnt ks h.2 (by omega)⟩
theorem wfL_cnt : ∀ ds : List Doc, ndL ds → cntL ds ≤ 60 → wfL ds
  | [], _, _ => trivial
  | d :: r, h, c => by
    rw [ndL] at h
    rw [cntL] at c
    rw [wfL]
    exact ⟨wf_cnt d h.1 (by omega), wfL_cnt r h.2 (by omega)⟩
theorem wfK_cnt : ∀ ds : List (Str × Doc), ndK ds → cntK ds ≤ 60 → wfK ds
  | [], _, _ => trivial
  | (_, d) :: r, h, c => by
    rw [ndK] at h
    rw [cntK] at c
    rw [wfK]
    exact ⟨wf_cnt d h.1 (by omega), wfK_cnt r h.2 (by omega)⟩
end
theorem cntL_set : ∀ {ds : List Doc} {n : Nat} {c : Doc} (e : Doc), ds[n]? = some c → cntL (ds.set n e) + parts c = cntL ds + parts e
  | d :: r, 0, c, e, h => by
    cases h
    rw [List.set_cons_zero, cntL, cntL]
    omega
  | d :: r, n + 1, c, e, h => by
    have ih := cntL_set (n := n) e (show r[n]? = some c from h)
    rw [List.set_cons_succ, cntL, cntL]
    omega
theorem ndL_set : ∀ {ds : List Doc} {n : Nat} {c : Doc}, ndL ds → ds[n]? = some c → nd c ∧ ∀ e, nd e → ndL (ds.set n e)
  | d :: r, 0, c, w, h => by
    cases h
    rw [ndL] at w
    refine ⟨w.1, fun e he => ?_⟩
    rw [List.set_cons_zero, ndL]
    exact ⟨he, w.2⟩
  | d :: r, n + 1, c, w, h => by
    rw [ndL] at w
    have ih := ndL_set (n := n) w.2 (show r[n]? = some c from h)
    refine ⟨ih.1, fun e he => ?_⟩
    rw [List.set_cons_succ, ndL]
    exact ⟨w.1, ih.2 e he⟩
theorem lkK_pos {k : Str} {d : Doc} {r : List (Str × Doc)} : lkK ((k, d) :: r) k = some d := by simp [lkK]
theorem lkK_neg {k s : Str} {d : Doc} {r : List (Str × Doc)} (h : k ≠ s) : lkK ((k, d) :: r) s = lkK r s := by simp [lkK, h]
theorem cntK_put : ∀ {ds : List (Str × Doc)} {s : Str} {c : Doc} (e : Doc), lkK ds s = some c → cntK (putD ds s e) + parts c = cntK ds + parts e
  | (k, d) :: r, s, c, e, h => by
    by_cases q : k = s
    · subst q
      rw [lkK_pos] at h
      cases h
      rw [putD, if_pos rfl, cntK, cntK]
      omega
    · rw [lkK_neg q] at h
      have ih := cntK_put e h
      rw [putD, if_neg q, cntK, cntK]
      omega
theorem putD_names : ∀ {ds : List (Str × Doc)} {s : Str} {e : Doc}, (putD ds s e).map (·.1) = ds.map (·.1)
  | [], _, _ => rfl
  | (k, d) :: r, s, e => by
    rw [putD]
    split
    · rfl
    · simp only [List.map_cons]
      rw [putD_names]
theorem ndK_put : ∀ {ds : List (Str × Doc)} {s : Str} {c : Doc}, ndK ds → lkK ds s = some c → nd c ∧ ∀ e, nd e → ndK (putD ds s e)
  | (k, d) :: r, s, c, w, h => by
    rw [ndK] at w
    by_cases q : k = s
    · subst q
      rw [lkK_pos] at h
      cases h
      refine ⟨w.1, fun e he => ?_⟩
      rw [putD, if_pos rfl, ndK]
      exact ⟨he, w.2⟩
    · rw [lkK_neg q] at h
      have ih := ndK_put w.2 h
      refine ⟨ih.1, fun e he => ?_⟩
      rw [putD, if_neg q, ndK]
      exact ⟨w.1, ih.2 e he⟩
/-! ### one part of a tree, and what stays when it changes -/
structure Lens (H : Hp) (v : V) (d : Doc) (fp : List Addr) (v' : V) (d' : Doc) (fp' : List Addr) (pt : Doc → Doc) : Prop where
  own : Own H v' d' fp'
  inn : ∀ a ∈ fp', a ∈ fp
  set : ∀ H' d'' fp'', Own H' v' d'' fp'' → (∀ a ∈ fp, a ∉ fp' → H' a = H a) → (∀ a ∈ fp'', a ∈ fp' ∨ a ∉ fp) → ∃ fp2, Own H' v (pt d'') fp2 ∧ (∀ a ∈ fp2, a ∈ fp ∨ a ∈ fp'') ∧ (∀ a ∈ fp, a ∉ fp' → a ∈ fp2) ∧ ∀ a ∈ fp'', a ∈ fp2
theorem Lens.refl {H : Hp} {v : V} {d : Doc} {fp : List Addr} (o : Own H v d fp) : Lens H v d fp v d fp id := ⟨o, fun _ h => h, fun _ _ fp'' o' _ _ => ⟨fp'', o', fun _ h => .inr h, fun _ h n => absurd h n, fun _ h => h⟩⟩
theorem Lens.comp {H : Hp} {v v1 v2 : V} {d d1 d2 : Doc} {fp fp1 fp2 : List Addr} {f g : Doc → Doc} (l : Lens H v d fp v1 d1 fp1 f) (m : Lens H v1 d1 fp1 v2 d2 fp2 g) : Lens H v d fp v2 d2 fp2 (fun e => f (g e)) := by
  refine ⟨m.own, fun a h => l.inn a (m.inn a h), fun H' d'' fp'' o fr nw => ?_⟩
  obtain ⟨fm, om, hm, hm2, hm3⟩ := m.set H' d'' fp'' o (fun a h1 h2 => fr a (l.inn a h1) h2) (fun a h => (nw a h).imp id fun z h1 => z (l.inn a h1))
  obtain ⟨fz, oz, hz, hz2, hz3⟩ := l.set H' _ fm om (fun a h1 h2 => fr a h1 fun z => h2 (m.inn a z)) (fun a h => (hm a h).elim .inl fun h => (nw a h).imp (m.inn a) id)
  refine ⟨fz, oz, fun a h => (hz a h).elim .inl fun h => (hm a h).imp (l.inn a) id, fun a h n => ?_, fun a h => hz3 a (hm3 a h)⟩
  by_cases h1 : a ∈ fp1
  · exact hz3 a (hm2 a h1 n)
  · exact hz2 a h h1
structure LensL (H : Hp) (vs : List V) (ds : List Doc) (fp : List Addr) (n : Nat) (x : V) (c : Doc) (fc : List Addr) : Prop where
  d : ds[n]? = some c
  v : vs[n]? = some x
  own : Own H x c fc
  inn : ∀ a ∈ fc, a ∈ fp
  set : ∀ H' e fe, Own H' x e fe → (∀ a ∈ fp, a ∉ fc → H' a = H a) → (∀ a ∈ fe, a ∈ fc ∨ a ∉ fp) → ∃ f2, OwnL H' vs (ds.set n e) f2 ∧ (∀ a ∈ f2, a ∈ fp ∨ a ∈ fe) ∧ (∀ a ∈ fp, a ∉ fc → a ∈ f2) ∧ ∀ a ∈ fe, a ∈ f2
theorem LensL.head {H : Hp} {v : V} {vs : List V} {d : Doc} {ds : List Doc} {fp fps : List Addr} (h : Own H v d fp) (r : OwnL H vs ds fps) (n : ∀ a ∈ fp, a ∉ fps) : LensL H (v :: vs) (d :: ds) (fp ++ fps) 0 v d fp := by
  refine ⟨rfl, rfl, h, fun a m => List.mem_append_left _ m, fun H' e fe oe fr nw => ?_⟩
  refine ⟨fe ++ fps, .cons oe (r.stay fun a m => fr a (List.mem_append_right _ m) fun z => n a z m) fun a m z => ?_, fun a m => ?_, fun a m z => ?_, fun a m => List.mem_append_left _ m⟩
  · rcases nw a m with q | q
    · exact n a q z
    · exact q (List.mem_append_right _ z)
  · rcases List.mem_append.mp m with m | m
    · exact .inr m
    · exact .inl (List.mem_append_right _ m)
  · rcases List.mem_append.mp m with m | m
    · exact absurd m z
    · exact List.mem_append_right _ m
theorem LensL.tail {H : Hp} {v : V} {vs : List V} {d : Doc} {ds : List Doc} {fp fps fc : List Addr} {k : Nat} {x : V} {c : Doc} (h : Own H v d fp) (n : ∀ a ∈ fp, a ∉ fps) (l : LensL H vs ds fps k x c fc) : LensL H (v :: vs) (d :: ds) (fp ++ fps) (k + 1) x c fc := by
  refine ⟨l.d, l.v, l.own, fun a m => List.mem_append_right _ (l.inn a m), fun H' e fe oe fr nw => ?_⟩
  obtain ⟨f2, o2, h2, h3, h4⟩ := l.set H' e fe oe (fun a m z => fr a (List.mem_append_right _ m) z) (fun a m => (nw a m).imp id fun z q => z (List.mem_append_right _ q))
  refine ⟨fp ++ f2, .cons (h.stay fun a m => fr a (List.mem_append_left _ m) fun z => n a m (l.inn a z)) o2 fun a m z => ?_, fun a m => ?_, fun a m z => ?_, fun a m => List.mem_append_right _ (h4 a m)⟩
  · rcases h2 a z with q | q
    · exact n a m q
    · rcases nw a q with q | q
      · exact n a m (l.inn a q)
      · exact q (List.mem_append_left _ m)
  · rcases List.mem_append.mp m with m | m
    · exact .inl (List.mem_append_left _ m)
    · exact (h2 a m).imp (List.mem_append_right _) id
  · rcases List.mem_append.mp m with m | m
    · exact List.mem_append_left _ m
    · exact List.mem_append_right _ (h3 a m z)
theorem OwnL.lens {H : Hp} : ∀ {vs : List V} {ds : List Doc} {fp : List Addr} {n : Nat} {c : Doc}, OwnL H vs ds fp → ds[n]? = some c → ∃ x fc, LensL H vs ds fp n x c fc
  | _, _, _, 0, c, .cons h r n, e => by
    cases e
    exact ⟨_, _, LensL.head h r n⟩
  | _, _, _, k + 1, c, .cons h r n, e => by
    obtain ⟨x, fc, l⟩ := OwnL.lens (n := k) r e
    exact ⟨x, fc, LensL.tail h n l⟩
theorem OwnL.which {H : Hp} {a : Addr} : ∀ {vs : List V} {ds : List Doc} {fp : List Addr}, OwnL H vs ds fp → a ∈ fp → ∃ n x c fc, LensL H vs ds fp n x c fc ∧ a ∈ fc
  | _, _, _, .nil, m => by cases m
  | _, _, _, .cons h r n, m => by
    rcases List.mem_append.mp m with m | m
    · exact ⟨0, _, _, _, LensL.head h r n, m⟩
    · obtain ⟨k, x, c, fc, l, hm⟩ := OwnL.which r m
      exact ⟨k + 1, x, c, fc, LensL.tail h n l, hm⟩
structure LensK (H : Hp) (vs : List (Key × V)) (ds : List (Str × Doc)) (fp : List Addr) (s : Str) (x : V) (c : Doc) (fc : List Addr) : Prop where
  d : lkK ds s = some c
  v : valV vs (.inr s : Key) = some x
  own : Own H x c fc
  inn : ∀ a ∈ fc, a ∈ fp
  set : ∀ H' e fe, Own H' x e fe → (∀ a ∈ fp, a ∉ fc → H' a = H a) → (∀ a ∈ fe, a ∈ fc ∨ a ∉ fp) → ∃ f2, OwnK H' vs (putD ds s e) f2 ∧ (∀ a ∈ f2, a ∈ fp ∨ a ∈ fe) ∧ (∀ a ∈ fp, a ∉ fc → a ∈ f2) ∧ ∀ a ∈ fe, a ∈ f2
theorem LensK.head {H : Hp} {s : Str} {v : V} {vs : List (Key × V)} {d : Doc} {ds : List (Str × Doc)} {fp fps : List Addr} (h : Own H v d fp) (r : OwnK H vs ds fps) (n : ∀ a ∈ fp, a ∉ fps) : LensK H ((.inr s, v) :: vs) ((s, d) :: ds) (fp ++ fps) s v d fp := by
  refine ⟨lkK_pos, valV_pos rfl, h, fun a m => List.mem_append_left _ m, fun H' e fe oe fr nw => ?_⟩
  rw [putD, if_pos rfl]
  refine ⟨fe ++ fps, .cons oe (r.stay fun a m => fr a (List.mem_append_right _ m) fun z => n a z m) fun a m z => ?_, fun a m => ?_, fun a m z => ?_, fun a m => List.mem_append_left _ m⟩
  · rcases nw a m with q | q
    · exact n a q z
    · exact q (List.mem_append_right _ z)
  · rcases List.mem_append.mp m with m | m
    · exact .inr m
    · exact .inl (List.mem_append_right _ m)
  · rcases List.mem_append.mp m with m | m
    · exact absurd m z
    · exact List.mem_append_right _ m
theorem LensK.tail {H : Hp} {s k : Str} {v : V} {vs : List (Key × V)} {d : Doc} {ds : List (Str × Doc)} {fp fps fc : List Addr} {x : V} {c : Doc} (hk : k ≠ s) (h : Own H v d fp) (n : ∀ a ∈ fp, a ∉ fps) (l : LensK H vs ds fps s x c fc) : LensK H ((.inr k, v) :: vs) ((k, d) :: ds) (fp ++ fps) s x c fc := by
  refine ⟨by rw [lkK_neg hk]; exact l.d, by rw [valV_neg (fun e => hk (Sum.inr.inj e))]; exact l.v, l.own, fun a m => List.mem_append_right _ (l.inn a m), fun H' e fe oe fr nw => ?_⟩
  obtain ⟨f2, o2, h2, h3, h4⟩ := l.set H' e fe oe (fun a m z => fr a (List.mem_append_right _ m) z) (fun a m => (nw a m).imp id fun z q => z (List.mem_append_right _ q))
  rw [putD, if_neg hk]
  refine ⟨fp ++ f2, .cons (h.stay fun a m => fr a (List.mem_append_left _ m) fun z => n a m (l.inn a z)) o2 fun a m z => ?_, fun a m => ?_, fun a m z => ?_, fun a m => List.mem_append_right _ (h4 a m)⟩
  · rcases h2 a z with q | q
    · exact n a m q
    · rcases nw a q with q | q
      · exact n a m (l.inn a q)
      · exact q (List.mem_append_left _ m)
  · rcases List.mem_append.mp m with m | m
    · exact .inl (List.mem_append_left _ m)
    · exact (h2 a m).imp (List.mem_append_right _) id
  · rcases List.mem_append.mp m with m | m
    · exact List.mem_append_left _ m
    · exact List.mem_append_right _ (h3 a m z)
theorem OwnK.lens {H : Hp} {s : Str} : ∀ {vs : List (Key × V)} {ds : List (Str × Doc)} {fp : List Addr} {c : Doc}, OwnK H vs ds fp → lkK ds s = some c → ∃ x fc, LensK H vs ds fp s x c fc
  | _, _, _, c, .nil, e => by cases e
  | _, _, _, c, .cons (k := k) h r n, e => by
    by_cases hk : k = s
    · subst hk
      rw [lkK_pos] at e
      cases e
      exact ⟨_, _, LensK.head h r n⟩
    · rw [lkK_neg hk] at e
      obtain ⟨x, fc, l⟩ := OwnK.lens r e
      exact ⟨x, fc, LensK.tail hk h n l⟩
theorem OwnK.which {H : Hp} {a : Addr} : ∀ {vs : List (Key × V)} {ds : List (Str × Doc)} {fp : List Addr}, OwnK H vs ds fp → (ds.map (·.1)).Nodup → a ∈ fp → ∃ s x c fc, LensK H vs ds fp s x c fc ∧ a ∈ fc
  | _, _, _, .nil, _, m => by cases m
  | _, _, _, .cons (k := k) h r n, w, m => by
    obtain ⟨w1, w2⟩ := List.nodup_cons.mp w
    rcases List.mem_append.mp m with m | m
    · exact ⟨k, _, _, _, LensK.head h r n, m⟩
    · obtain ⟨s, x, c, fc, l, hm⟩ := OwnK.which r w2 m
      refine ⟨s, x, c, fc, LensK.tail (fun e => w1 ?_) h n l, hm⟩
      subst e
      have := l.d
      unfold lkK at this
      cases q : List.find? (fun (p : Str × Doc) => decide (p.1 = k)) _ with
      | none => rw [q] at this; cases this
      | some p =>
        have h1 := List.mem_of_find?_eq_some q
        have h2 := List.find?_some q
        exact List.mem_map.mpr ⟨p, h1, of_decide_eq_true h2⟩
theorem Lens.row {H : Hp} {a : Addr} {vs : List V} {ds : List Doc} {fps fc : List Addr} {n : Nat} {x : V} {c : Doc} (ha : H a = some (.lst vs)) (na : a ∉ fps) (l : LensL H vs ds fps n x c fc) : Lens H (.ref a) (.row ds) (a :: fps) x c fc (fun e => .row (ds.set n e)) := by
  refine ⟨l.own, fun b m => List.mem_cons_of_mem _ (l.inn b m), fun H' e fe oe fr nw => ?_⟩
  obtain ⟨f2, o2, h2, h3, h4⟩ := l.set H' e fe oe (fun b m z => fr b (List.mem_cons_of_mem _ m) z) (fun b m => (nw b m).imp id fun z q => z (List.mem_cons_of_mem _ q))
  have nc : a ∉ fc := fun z => na (l.inn a z)
  have nf : a ∉ f2 := fun z => by
    rcases h2 a z with q | q
    · exact na q
    · rcases nw a q with q | q
      · exact nc q
      · exact q List.mem_cons_self
  refine ⟨a :: f2, .row ((fr a List.mem_cons_self nc).trans ha) o2 nf, fun b m => ?_, fun b m z => ?_, fun b m => List.mem_cons_of_mem _ (h4 b m)⟩
  · rcases List.mem_cons.mp m with rfl | m
    · exact .inl List.mem_cons_self
    · exact (h2 b m).imp (List.mem_cons_of_mem _) id
  · rcases List.mem_cons.mp m with rfl | m
    · exact List.mem_cons_self
    · exact List.mem_cons_of_mem _ (h3 b m z)
theorem Lens.tab {H : Hp} {a : Addr} {vs : List (Key × V)} {ds : List (Str × Doc)} {fps fc : List Addr} {s : Str} {x : V} {c : Doc} (ha : H a = some (.dK vs)) (na : a ∉ fps) (l : LensK H vs ds fps s x c fc) : Lens H (.ref a) (.tab ds) (a :: fps) x c fc (fun e => .tab (putD ds s e)) := by
  refine ⟨l.own, fun b m => List.mem_cons_of_mem _ (l.inn b m), fun H' e fe oe fr nw => ?_⟩
  obtain ⟨f2, o2, h2, h3, h4⟩ := l.set H' e fe oe (fun b m z => fr b (List.mem_cons_of_mem _ m) z) (fun b m => (nw b m).imp id fun z q => z (List.mem_cons_of_mem _ q))
  have nc : a ∉ fc := fun z => na (l.inn a z)
  have nf : a ∉ f2 := fun z => by
    rcases h2 a z with q | q
    · exact na q
    · rcases nw a q with q | q
      · exact nc q
      · exact q List.mem_cons_self
  refine ⟨a :: f2, .tab ((fr a List.mem_cons_self nc).trans ha) o2 nf, fun b m => ?_, fun b m z => ?_, fun b m => List.mem_cons_of_mem _ (h4 b m)⟩
  · rcases List.mem_cons.mp m with rfl | m
    · exact .inl List.mem_cons_self
    · exact (h2 b m).imp (List.mem_cons_of_mem _) id
  · rcases List.mem_cons.mp m with rfl | m
    · exact List.mem_cons_self
    · exact List.mem_cons_of_mem _ (h3 b m z)
/-- the place of a row or table of the tree -/
theorem Own.node (n : Nat) : ∀ {H : Hp} {v : V} {d : Doc} {fp : List Addr} {a : Addr}, d.depth < n → Own H v d fp → nd d → a ∈ fp →
    ∃ d' fp' pt, Lens H v d fp (.ref a) d' fp' pt ∧ (∀ e, parts (pt e) + parts d' = parts d + parts e) ∧ nd d' ∧ ∀ e, nd e → nd (pt e) := by
  induction n with
  | zero => intro H v d fp a h; omega
  | succ n ih =>
    intro H v d fp a hn o w m
    cases o with
    | num i => cases m
    | txt i => cases m
    | row h r na =>
      rename_i b vs ds fps
      rcases List.mem_cons.mp m with rfl | m
      · exact ⟨_, _, id, Lens.refl (.row h r na), fun e => by simp only [id]; omega, w, fun e he => he⟩
      · obtain ⟨k, x, c, fc, l, hm⟩ := r.which m
        rw [Doc.depth] at hn
        have := depthL_mem (mem_of_get l.d)
        rw [nd] at w
        have wc := ndL_set w l.d
        obtain ⟨d', fp', pt, q1, q2, q3, q4⟩ := ih (by omega) l.own wc.1 hm
        refine ⟨d', fp', _, (Lens.row h na l).comp q1, fun e => ?_, q3, fun e he => ?_⟩
        · have := q2 e
          have := cntL_set (pt e) l.d
          simp only [parts]
          omega
        · rw [nd]
          exact wc.2 _ (q4 e he)
    | tab h r na =>
      rename_i b vs ds fps
      rcases List.mem_cons.mp m with rfl | m
      · exact ⟨_, _, id, Lens.refl (.tab h r na), fun e => by simp only [id]; omega, w, fun e he => he⟩
      · rw [nd] at w
        obtain ⟨k, x, c, fc, l, hm⟩ := OwnK.which r w.1 m
        rw [Doc.depth] at hn
        have wc := ndK_put w.2 l.d
        have hd : c.depth ≤ depthK ds := by
          have := l.d
          unfold lkK at this
          cases q : List.find? (fun p => decide (p.1 = k)) ds with
          | none => rw [q] at this; cases this
          | some p =>
            rw [q] at this
            cases this
            exact depthK_mem (List.mem_of_find?_eq_some q)
        obtain ⟨d', fp', pt, q1, q2, q3, q4⟩ := ih (by omega) l.own wc.1 hm
        refine ⟨d', fp', _, (Lens.tab h na l).comp q1, fun e => ?_, q3, fun e he => ?_⟩
        · have := q2 e
          have := cntK_put (pt e) l.d
          simp only [parts]
          omega
        · rw [nd, putD_names]
          exact ⟨w.1, wc.2 _ (q4 e he)⟩
/-- the place that a path leads to -/
theorem Own.path : ∀ {p : List Stp} {H : Hp} {v : V} {d d' : Doc} {fp : List Addr}, Own H v d fp → sub d p = some d' → ∃ v' fp', Lens H v d fp v' d' fp' (put d p)
  | [], H, v, d, d', fp, o, h => by
    cases h
    exact ⟨v, fp, Lens.refl o⟩
  | s :: p, H, v, d, d', fp, o, h => by
    have h' : (kid d s).bind (fun c => sub c p) = some d' := h
    cases hk : kid d s with
    | none => rw [hk] at h'; cases h'
    | some c =>
      rw [hk] at h'
      have h2 : sub c p = some d' := h'
      have ep : put d (s :: p) = fun e => putKid d s (put c p e) := by
        funext e
        rw [put, hk]
      rw [ep]
      cases o with
      | num i => cases s <;> cases hk
      | txt i => cases s <;> cases hk
      | row ha r na =>
        cases s with
        | nm z => cases hk
        | ix k =>
          obtain ⟨x, fc, l⟩ := r.lens (n := k) hk
          obtain ⟨v', fp', q⟩ := Own.path l.own h2
          exact ⟨v', fp', (Lens.row ha na l).comp q⟩
      | tab ha r na =>
        cases s with
        | ix k => cases hk
        | nm z =>
          obtain ⟨x, fc, l⟩ := OwnK.lens (s := z) r hk
          obtain ⟨v', fp', q⟩ := Own.path l.own h2
          exact ⟨v', fp', (Lens.tab ha na l).comp q⟩
end RD
end
section
set_option Elab.async false
set_option maxRecDepth 100000
set_option maxHeartbeats 1000000
namespace RD
open PySem PySem.Spec PyProof.Rows L2
/-! ## walking down -/
theorem RepK.get2 {H : Hp} {vs : List (Key × V)} {ks : List (Str × Doc)} (r : RepK H vs ks) {s : Str} {c : Doc} (h : lkK ks s = some c) : ∃ x, valV vs (.inr s : Key) = some x ∧ Rep H x c := by
  rcases r.val (k := s) with ⟨_, e⟩ | ⟨v, d, e1, e2, r'⟩
  · rw [h] at e; cases e
  · rw [h] at e2
    cases e2
    exact ⟨v, e1, r'⟩
theorem RepK.none2 {H : Hp} {vs : List (Key × V)} {ks : List (Str × Doc)} (r : RepK H vs ks) {s : Str} (h : lkK ks s = none) : valV vs (.inr s : Key) = none := by
  rcases r.val (k := s) with ⟨e, _⟩ | ⟨v, d, e1, e2, r'⟩
  · exact e
  · rw [h] at e2; cases e2
/-- one step down -/
theorem Rep.kid {H : Hp} {v : V} {d c : Doc} {s : Stp} (r : Rep H v d) (h : kid d s = some c) : ∃ x, ixV H v s.v = some x ∧ Rep H x c := by
  cases r with
  | num i => cases s <;> cases h
  | txt i => cases s <;> cases h
  | row e r =>
    cases s with
    | nm z => cases h
    | ix k =>
      obtain ⟨x, hx, rx⟩ := r.get' (i := k) h
      refine ⟨x, ?_, rx⟩
      show ixV H (.ref _) (.int _) = _
      rw [ix_lst e]
      exact atI_nat hx
  | tab e r =>
    cases s with
    | ix k => cases h
    | nm z =>
      obtain ⟨x, hx, rx⟩ := r.get2 (s := z) h
      refine ⟨x, ?_, rx⟩
      show ixV H (.ref _) (.str _) = _
      rw [ix_dK e]
      exact hx
theorem kid_depth {d c : Doc} {s : Stp} (h : kid d s = some c) : c.depth < d.depth := by
  cases d with
  | num i => cases s <;> cases h
  | txt i => cases s <;> cases h
  | row ds =>
    cases s with
    | nm z => cases h
    | ix k =>
      rw [Doc.depth]
      have := depthL_mem (mem_of_get (show ds[k]? = some c from h))
      omega
  | tab ks =>
    cases s with
    | ix k => cases h
    | nm z =>
      have h' : (ks.find? fun p => decide (p.1 = z)).map (·.2) = some c := h
      obtain ⟨p, hp, e⟩ := Option.map_eq_some_iff.mp h'
      have := depthK_mem (List.mem_of_find?_eq_some hp)
      subst e
      rw [Doc.depth]
      omega
theorem kid_wf {d c : Doc} {s : Stp} (w : d.wf) (h : kid d s = some c) : c.wf := by
  cases d with
  | num i => cases s <;> cases h
  | txt i => cases s <;> cases h
  | row ds =>
    cases s with
    | nm z => cases h
    | ix k =>
      rw [Doc.wf] at w
      exact wfL_mem w.2 (mem_of_get (show ds[k]? = some c from h))
  | tab ks =>
    cases s with
    | ix k => cases h
    | nm z =>
      rw [Doc.wf] at w
      have h' : (ks.find? fun p => decide (p.1 = z)).map (·.2) = some c := h
      obtain ⟨p, hp, e⟩ := Option.map_eq_some_iff.mp h'
      subst e
      exact wfK_mem w.2.2 (List.mem_of_find?_eq_some hp)
theorem sub_snoc : ∀ {p : List Stp} {d : Doc} {s : Stp}, sub d (p ++ [s]) = (sub d p).bind fun c => kid c s
  | [], d, s => by
    show (kid d s).bind (fun c => some c) = kid d s
    cases kid d s <;> rfl
  | t :: p, d, s => by
    show (kid d t).bind (fun c => sub c (p ++ [s])) = ((kid d t).bind fun c => sub c p).bind fun c => kid c s
    cases kid d t with
    | none => rfl
    | some c => exact sub_snoc
theorem sub_depth : ∀ {p : List Stp} {d c : Doc}, sub d p = some c → c.depth ≤ d.depth
  | [], d, c, h => by cases h; exact Nat.le_refl _
  | s :: p, d, c, h => by
    have h' : (kid d s).bind (fun c => sub c p) = some c := h
    cases hk : kid d s with
    | none => rw [hk] at h'; cases h'
    | some e =>
      rw [hk] at h'
      have := kid_depth hk
      have := sub_depth (show sub e p = some c from h')
      omega
theorem sub_wf : ∀ {p : List Stp} {d c : Doc}, d.wf → sub d p = some c → c.wf
  | [], d, c, w, h => by cases h; exact w
  | s :: p, d, c, w, h => by
    have h' : (kid d s).bind (fun c => sub c p) = some c := h
    cases hk : kid d s with
    | none => rw [hk] at h'; cases h'
    | some e =>
      rw [hk] at h'
      exact sub_wf (kid_wf w hk) (show sub e p = some c from h')
theorem sub_take_succ {p : List Stp} {i : Nat} {s : Stp} {d : Doc} (h : p[i]? = some s) : sub d (p.take (i + 1)) = (sub d (p.take i)).bind fun c => kid c s := by
  rw [take_one h]
  exact sub_snoc
theorem sub_none_take {p : List Stp} {d : Doc} : ∀ (i : Nat), sub d (p.take i) = none → sub d p = none := by
  intro i h
  have : ∀ (a b : List Stp) (d : Doc), sub d a = none → sub d (a ++ b) = none := by
    intro a
    induction a with
    | nil => intro b d h; cases h
    | cons s a ih =>
      intro b d h
      show (kid d s).bind (fun c => sub c (a ++ b)) = none
      have h' : (kid d s).bind (fun c => sub c a) = none := h
      cases hk : kid d s with
      | none => rfl
      | some c =>
        rw [hk] at h'
        exact ih b c h'
  have h2 := this _ (p.drop i) d h
  rwa [List.take_append_drop] at h2
/-- a path's tuple -/
def PathAt (H : Hp) (v : V) (p : List Stp) : Prop := TupAt H v (p.map Stp.v)
theorem TupAt.same {H H' : Hp} {v : V} {xs : List V} (s : Same H H') (t : TupAt H v xs) : TupAt H' v xs := by
  obtain ⟨a, e, h⟩ := t
  exact ⟨a, e, same_vw s h⟩
theorem PathAt.same {H H' : Hp} {v : V} {p : List Stp} (s : Same H H') (t : PathAt H v p) : PathAt H' v p := TupAt.same s t
theorem stp_scal (s : Stp) : flatV s.v = true := by cases s <;> rfl
theorem stps_flat (p : List Stp) : (p.map Stp.v).all flatV = true := by
  rw [List.all_eq_true]
  intro x hx
  obtain ⟨s, _, e⟩ := List.mem_map.mp hx
  subst e
  exact stp_scal s
theorem eqStrs : ∀ {ys : List Str}, allEq (ys.map V.str) (ys.map V.str) = true := by
  intro ys
  unfold allEq
  rw [List.all_eq_true]
  intro j hj
  rw [Nat.min_self, List.mem_range, List.length_map] at hj
  simp [List.getD, hj, eqV]
theorem allEq_nil {xs : List V} : allEq xs [] = true := by
  unfold allEq
  simp
end RD
end
section
set_option Elab.async false
set_option maxRecDepth 100000
set_option maxHeartbeats 1000000
namespace RD
open PySem PySem.Spec PyProof.Rows L2
/-! ## walking by values -/
def walk (H : Hp) : V → List Stp → Option V
  | v, [] => some v
  | v, s :: p => (ixV H v s.v).bind fun x => walk H x p
theorem walk_snoc {H : Hp} : ∀ {p : List Stp} {v : V} {s : Stp}, walk H v (p ++ [s]) = (walk H v p).bind fun x => ixV H x s.v
  | [], v, s => by
    show (ixV H v s.v).bind (fun c => some c) = ixV H v s.v
    cases ixV H v s.v <;> rfl
  | t :: p, v, s => by
    show (ixV H v t.v).bind (fun c => walk H c (p ++ [s])) = ((ixV H v t.v).bind fun c => walk H c p).bind fun c => ixV H c s.v
    cases ixV H v t.v with
    | none => rfl
    | some c => exact walk_snoc
theorem walk_take {H : Hp} {p : List Stp} {v : V} {s : Stp} {i : Nat} (h : p[i]? = some s) : walk H v (p.take (i + 1)) = (walk H v (p.take i)).bind fun x => ixV H x s.v := by
  rw [take_one h]
  exact walk_snoc
theorem Rep.walk {H : Hp} : ∀ {p : List Stp} {v : V} {d c : Doc}, Rep H v d → sub d p = some c → ∃ x, walk H v p = some x ∧ Rep H x c
  | [], v, d, c, r, h => by cases h; exact ⟨v, rfl, r⟩
  | s :: p, v, d, c, r, h => by
    have h' : (RD.kid d s).bind (fun c => sub c p) = some c := h
    cases hk : RD.kid d s with
    | none => rw [hk] at h'; cases h'
    | some e =>
      rw [hk] at h'
      obtain ⟨x, hx, rx⟩ := r.kid hk
      obtain ⟨y, hy, ry⟩ := rx.walk (p := p) h'
      refine ⟨y, ?_, ry⟩
      show (ixV H v s.v).bind (fun x => RD.walk H x p) = some y
      rw [hx]
      exact hy
theorem walk_pre {H : Hp} {v x : V} {p : List Stp} (h : walk H v p = some x) (i : Nat) : ∃ y, walk H v (p.take i) = some y := by
  have : ∀ (a b : List Stp) (v : V), walk H v a = none → walk H v (a ++ b) = none := by
    intro a
    induction a with
    | nil => intro b d h; cases h
    | cons s a ih =>
      intro b d h
      show (ixV H d s.v).bind (fun c => walk H c (a ++ b)) = none
      have h' : (ixV H d s.v).bind (fun c => walk H c a) = none := h
      cases hk : ixV H d s.v with
      | none => rfl
      | some c =>
        rw [hk] at h'
        exact ih b c h'
  cases e : walk H v (p.take i) with
  | some y => exact ⟨y, rfl⟩
  | none =>
    have h2 := this _ (p.drop i) v e
    rw [List.take_append_drop, h] at h2
    cases h2
/-- the place that a path leads to, with the walk -/
theorem Own.path2 : ∀ {p : List Stp} {H : Hp} {v : V} {d d' : Doc} {fp : List Addr}, Own H v d fp → sub d p = some d' → ∃ v' fp', walk H v p = some v' ∧ Lens H v d fp v' d' fp' (put d p)
  | [], H, v, d, d', fp, o, h => by
    cases h
    exact ⟨v, fp, rfl, Lens.refl o⟩
  | s :: p, H, v, d, d', fp, o, h => by
    have h' : (kid d s).bind (fun c => sub c p) = some d' := h
    cases hk : kid d s with
    | none => rw [hk] at h'; cases h'
    | some c =>
      rw [hk] at h'
      have h2 : sub c p = some d' := h'
      have ep : put d (s :: p) = fun e => putKid d s (put c p e) := by
        funext e
        rw [put, hk]
      rw [ep]
      cases o with
      | num i => cases s <;> cases hk
      | txt i => cases s <;> cases hk
      | row ha r na =>
        cases s with
        | nm z => cases hk
        | ix k =>
          obtain ⟨x, fc, l⟩ := r.lens (n := k) hk
          obtain ⟨v', fp', w, q⟩ := Own.path2 l.own h2
          refine ⟨v', fp', ?_, (Lens.row ha na l).comp q⟩
          show (ixV H (.ref _) (.int _)).bind (fun x => walk H x p) = some v'
          rw [ix_lst (vw_lst ha), atI_nat l.v]
          exact w
      | tab ha r na =>
        cases s with
        | ix k => cases hk
        | nm z =>
          obtain ⟨x, fc, l⟩ := OwnK.lens (s := z) r hk
          obtain ⟨v', fp', w, q⟩ := Own.path2 l.own h2
          refine ⟨v', fp', ?_, (Lens.tab ha na l).comp q⟩
          show (ixV H (.ref _) (.str _)).bind (fun x => walk H x p) = some v'
          rw [ix_dK (vw_dK ha)]
          have e : (keyOf (.str z)).bind (valV _) = some x := l.v
          rw [e]
          exact w
theorem put_snoc : ∀ {p : List Stp} {d c : Doc} {s : Stp} (e : Doc), sub d p = some c → (kid c s).isSome = true → put d (p ++ [s]) e = put d p (putKid c s e)
  | [], d, c, s, e, h, hs => by
    cases h
    show (match kid d s with
    | some c => putKid d s (put c [] e)
    | none => d) = putKid d s e
    cases hk : kid d s with
    | none => rw [hk] at hs; cases hs
    | some c => rfl
  | t :: p, d, c, s, e, h, hs => by
    have h' : (kid d t).bind (fun c => sub c p) = some c := h
    show (match kid d t with
    | some c => putKid d t (put c (p ++ [s]) e)
    | none => d) = (match kid d t with
    | some c' => putKid d t (put c' p (putKid c s e))
    | none => d)
    cases hk : kid d t with
    | none => rfl
    | some c' =>
      rw [hk] at h'
      show putKid d t _ = putKid d t _
      rw [put_snoc e h' hs]
/-! ### one cell anew -/
theorem OwnL.put {H : Hp} {y : V} {e : Doc} {fy : List Addr} (oy : Own H y e fy) : ∀ {vs : List V} {ds : List Doc} {fps : List Addr} {n : Nat} {c : Doc}, OwnL H vs ds fps → ds[n]? = some c → (∀ a ∈ fy, a ∉ fps) → ∃ f2, OwnL H (vs.set n y) (ds.set n e) f2 ∧ ∀ a ∈ f2, a ∈ fps ∨ a ∈ fy
  | _, _, _, 0, c, .cons (fps := fps) h r n, he, dj => by
    cases he
    exact ⟨fy ++ fps, .cons oy r fun a m z => dj a m (List.mem_append_right _ z), fun a m => (List.mem_append.mp m).elim .inr fun m => .inl (List.mem_append_right _ m)⟩
  | _, _, _, k + 1, c, .cons (fp := fp) h r n, he, dj => by
    obtain ⟨f2, o2, h2⟩ := OwnL.put oy (n := k) r he fun a m z => dj a m (List.mem_append_right _ z)
    refine ⟨fp ++ f2, .cons h o2 fun a m z => ?_, fun a m => ?_⟩
    · rcases h2 a z with q | q
      · exact n a m q
      · exact dj a q (List.mem_append_left _ m)
    · rcases List.mem_append.mp m with m | m
      · exact .inl (List.mem_append_left _ m)
      · exact (h2 a m).imp (List.mem_append_right _) id
theorem map_noKey {kvs : List (Key × V)} {k : Key} {y : V} (h : ∀ p ∈ kvs, p.1 ≠ k) : kvs.map (fun kv => if kv.1 = k then (kv.1, y) else kv) = kvs := by
  induction kvs with
  | nil => rfl
  | cons p r ih =>
    rw [List.map_cons, if_neg (h p List.mem_cons_self), ih fun q hq => h q (List.mem_cons_of_mem _ hq)]
theorem OwnK.noKey {H : Hp} {vs : List (Key × V)} {ds : List (Str × Doc)} {fps : List Addr} (o : OwnK H vs ds fps) {s : Str} (h : s ∉ ds.map (·.1)) : ∀ p ∈ vs, p.1 ≠ .inr s := fun p hp e => by
  have h1 : p.1 ∈ vs.map (·.1) := List.mem_map.mpr ⟨p, hp, rfl⟩
  rw [o.rep.keys, e] at h1
  obtain ⟨q, hq, e2⟩ := List.mem_map.mp h1
  exact h (List.mem_map.mpr ⟨q, hq, Sum.inr.inj e2⟩)
theorem OwnK.putM {H : Hp} {y : V} {e : Doc} {fy : List Addr} {s : Str} (oy : Own H y e fy) : ∀ {vs : List (Key × V)} {ds : List (Str × Doc)} {fps : List Addr} {c : Doc}, OwnK H vs ds fps → (ds.map (·.1)).Nodup → lkK ds s = some c → (∀ a ∈ fy, a ∉ fps) →
    ∃ f2, OwnK H (vs.map fun kv => if kv.1 = (.inr s : Key) then (kv.1, y) else kv) (putD ds s e) f2 ∧ ∀ a ∈ f2, a ∈ fps ∨ a ∈ fy
  | _, _, _, c, .nil, _, he, dj => by cases he
  | _, _, _, c, .cons (fp := fp) (fps := fps) (k := k) h r n, w, he, dj => by
    obtain ⟨w1, w2⟩ := List.nodup_cons.mp w
    by_cases hk : k = s
    · subst hk
      rw [putD, if_pos rfl, List.map_cons, if_pos rfl, map_noKey (r.noKey w1)]
      exact ⟨fy ++ fps, .cons oy r fun a m z => dj a m (List.mem_append_right _ z), fun a m => (List.mem_append.mp m).elim .inr fun m => .inl (List.mem_append_right _ m)⟩
    · rw [lkK_neg hk] at he
      obtain ⟨f2, o2, h2⟩ := OwnK.putM oy r w2 he fun a m z => dj a m (List.mem_append_right _ z)
      rw [putD, if_neg hk, List.map_cons, if_neg (fun z => hk (Sum.inr.inj z))]
      refine ⟨fp ++ f2, .cons h o2 fun a m z => ?_, fun a m => ?_⟩
      · rcases h2 a z with q | q
        · exact n a m q
        · exact dj a q (List.mem_append_left _ m)
      · rcases List.mem_append.mp m with m | m
        · exact .inl (List.mem_append_left _ m)
        · exact (h2 a m).imp (List.mem_append_right _) id
theorem OwnK.put {H : Hp} {y : V} {e c : Doc} {fy fps : List Addr} {s : Str} {vs : List (Key × V)} {ds : List (Str × Doc)} (oy : Own H y e fy) (o : OwnK H vs ds fps) (w : (ds.map (·.1)).Nodup) (hc : lkK ds s = some c) (dj : ∀ a ∈ fy, a ∉ fps) :
    ∃ f2, OwnK H (putK vs (.inr s) y) (putD ds s e) f2 ∧ ∀ a ∈ f2, a ∈ fps ∨ a ∈ fy := by
  obtain ⟨x, hx, _⟩ := o.rep.get2 hc
  unfold putK
  rw [valV_any, hx]
  exact o.putM oy w hc dj
/-- a cell of a node of one's own set anew: what rSet leaves -/
theorem Own.setKid {H : Hp} {v y : V} {d e k : Doc} {fp fy : List Addr} {s : Stp} (o : Own H v d fp) (hk : kid d s = some k) (w : d.wf) (oy : Own H y e fy) (dj : ∀ a ∈ fy, a ∉ fp) {Q : Hp → Prop}
    (q : ∀ a u fp', v = .ref a → a ∈ fp → Own (upd H a u) v (putKid d s e) fp' → (∀ b ∈ fp', b ∈ fp ∨ b ∈ fy) → Q (upd H a u)) : rSet v s.v y H Q := by
  cases o with
  | num i => cases s <;> cases hk
  | txt i => cases s <;> cases hk
  | row ha r na =>
    rename_i a vs ds fps
    cases s with
    | nm z => cases hk
    | ix n =>
      have hn : n < ds.length := lt_of_get (show ds[n]? = some k from hk)
      have hl := r.rep.length
      simp only [rSet, ha, Stp.v]
      refine ⟨_, n, rfl, ?_, ?_⟩
      · unfold ixN
        rw [if_pos (by omega), if_pos (by omega)]
        rfl
      obtain ⟨f2, o2, h2⟩ := OwnL.put oy (n := n) r hk fun b m z => dj b m (List.mem_cons_of_mem _ z)
      have nf : a ∉ f2 := fun z => by
        rcases h2 a z with q | q
        · exact na q
        · exact dj a q List.mem_cons_self
      refine q a _ (a :: f2) rfl List.mem_cons_self (.row upd_same (o2.stay fun b m => upd_ne fun (e : b = a) => nf (e ▸ m)) nf) fun b m => ?_
      rcases List.mem_cons.mp m with rfl | m
      · exact .inl List.mem_cons_self
      · exact (h2 b m).imp (List.mem_cons_of_mem _) id
  | tab ha r na =>
    rename_i a vs ds fps
    cases s with
    | ix z => cases hk
    | nm z =>
      have hl := r.rep.length
      rw [Doc.wf] at w
      simp only [rSet, ha, Stp.v]
      refine ⟨_, rfl, ?_, ?_⟩
      · have : sizeLine = 16777216 := by decide
        omega
      obtain ⟨f2, o2, h2⟩ := OwnK.put oy r w.2.1 (s := z) hk fun b m z => dj b m (List.mem_cons_of_mem _ z)
      have nf : a ∉ f2 := fun z => by
        rcases h2 a z with q | q
        · exact na q
        · exact dj a q List.mem_cons_self
      refine q a _ (a :: f2) rfl List.mem_cons_self (.tab upd_same (o2.stay fun b m => upd_ne fun (e : b = a) => nf (e ▸ m)) nf) fun b m => ?_
      rcases List.mem_cons.mp m with rfl | m
      · exact .inl List.mem_cons_self
      · exact (h2 b m).imp (List.mem_cons_of_mem _) id
end RD
end
section
set_option Elab.async false
set_option maxRecDepth 100000
set_option maxHeartbeats 1000000
namespace K23
open PySem PySem.Spec PyProof.Rows L2 RD
variable {K : PySem.W.Frag}
theorem copy_of_ok (n : Nat) (d : Doc) (hn : d.depth < n) (H : Hp) (v : V) (Q : VK) (E : XK) (r : Rep H v d) (w : d.wf)
    (q : ∀ v' H' fp, Same H H' → Own H' v' d fp → (∀ a ∈ fp, H a = none) → Q v' H') : run (pg.tb K) n d_copy_of [v] H Q E := by
  induction n generalizing d H v Q E with
  | zero => omega
  | succ n ih =>
  rw [r_copy_of]
  refine ⟨rfl, ?_⟩
  cases r with
  | num i =>
    simp [L2.start]
    exact q _ _ _ (Same.refl H) (.num i) (fun _ h => by cases h)
  | txt z =>
    simp [L2.start]
    exact q _ _ _ (Same.refl H) (.txt z) (fun _ h => by cases h)
  | row h r =>
    rename_i a vs ds
    rw [Doc.wf] at w
    rw [Doc.depth] at hn
    have hlen := r.length
    simp [L2.start, isi_lst h]
    refine lcA_lst ?_
    simp
    refine ⟨⟨vs, sqL_vw h⟩, lcW_by jl (fun D i acc H' => Same H H' ∧ ∃ fp, OwnL H' acc (ds.take i) fp ∧ (∀ a ∈ fp, H a = none) ∧ D ∉ fp) (by omega) (fun D i acc H' _ iv => same_vw iv.1 h) (fun D hD => ⟨same_new hD _, [], by simpa using OwnL.nil, by simp, by simp⟩) ?_ ?_⟩
    · rintro D i x acc H' Qy hD hx ha hl ⟨s, fp, o, fr, nD⟩ hQ
      simp
      obtain ⟨di, hdi, ri⟩ := r.get hx
      refine ih di (by have := depthL_mem (mem_of_get hdi); omega) H' x _ _ (ri.same s) (wfL_mem w.2 (mem_of_get hdi)) fun v' H'' fp' s' o' fr' => ?_
      obtain ⟨p1, p2⟩ := OwnL.push (o' := .lst (acc ++ [v'])) o hdi s' o' fr' nD ha
      exact hQ v' H'' (s' _ _ ha) ⟨same_upd hD (s.trans s'), fp ++ fp', p1, fun a m => (List.mem_append.mp m).elim (fr a) fun m => same_none s (fr' a m), p2⟩
    · rintro D acc H' hD ha hl ⟨s, fp, o, fr, nD⟩
      rw [hlen, List.take_length] at o
      exact q _ _ _ s (.row ha o nD) fun a m => (List.mem_cons.mp m).elim (fun e => e ▸ hD) (fr a)
  | tab h r =>
    rename_i a kvs ks
    rw [Doc.wf] at w
    rw [Doc.depth] at hn
    have hlen := r.length
    simp [L2.start, isi_dK h]
    intro D hD
    have hne : a ≠ D := fun e => by subst e; unfold vw at h; rw [hD] at h; cases h
    have h1 : vw (upd H D (.dK [])) a = some (.dK kvs) := same_vw (same_new hD _) h
    refine forA_keys (d := a) h1 (fun Hl R q => by simpa using q) fun Hl o D' l nx rt => ?_
    have sHl : ∀ b, b ≠ a → b ≠ D → Hl b = H b := fun b h1 h2 => by rw [l.ne b h1, upd_ne h2]
    refine forW_by jk (fun i σ' H' => (∃ x, σ' = [some (.ref a), none, some (.ref D), x]) ∧ H' a = Hl a ∧ ∃ acc fp, H' D = some (.dK acc) ∧ OwnK H' acc (ks.take i) fp ∧ (∀ b ∈ fp, Hl b = none) ∧ D ∉ fp ∧ ∀ b u, b ≠ D → Hl b = some u → H' b = some u) (fun i σ' H' p => by rw [p.2.1, l.at_]) ⟨⟨_, rfl⟩, rfl, [], [], ?_, by simpa using OwnK.nil, by simp, by simp, fun _ _ _ e => e⟩ ?_ ?_
    · rw [l.ne D hne.symm, upd_same]
    · rintro i x σ' H' hx ⟨⟨x0, rfl⟩, ha, acc, fp, hacc, ok, fr, nD, kp⟩
      rw [List.getElem?_map] at hx
      obtain ⟨p, hp, rfl⟩ := Option.map_eq_some_iff.mp hx
      obtain ⟨k, di, hk, hdi, ri⟩ := r.get hp
      have hv : vw H' a = some (.dK kvs) := by unfold vw; rw [ha, l.at_]
      have ri' : Rep H' p.2 di := ri.stay fun b u e => by
        have e1 : vw (upd H D (.dK [])) b = some u := same_vw (same_new hD _) e
        rw [← l.vw] at e1
        unfold vw at e1 ⊢
        cases e2 : Hl b with
        | none => rw [e2] at e1; cases e1
        | some w =>
          rw [e2] at e1
          have nb : b ≠ D := fun z => by
            subst z
            unfold vw at e
            rw [hD] at e
            cases e
          rw [kp b w nb e2]
          exact e1
      obtain ⟨pk, pv⟩ := p
      cases hk
      simp [kV, ix_dK hv, keyOf, valV_get (r.keyNodup w.2.1) hp]
      refine ih di (by have : di.depth ≤ _ := depthK_mem (mem_of_get hdi); omega) H' pv _ _ ri' (wfK_mem w.2.2 (mem_of_get hdi)) fun v' H'' fp' s' o' fr' => ?_
      obtain ⟨p1, p2⟩ := OwnK.push (o' := .dK (acc ++ [(.inr k, v')])) ok hdi s' o' fr' nD hacc
      have hacc2 := s' _ _ hacc
      have hl : acc.length < sizeLine := by
        have e1 := ok.rep.length
        have e2 : (ks.take i).length ≤ ks.length := List.length_take_le' _ _
        have : sizeLine = 16777216 := by decide
        omega
      simp [rSet, hacc2, keyOf, hl]
      rw [ok.rep.putNew w.2.1 hdi]
      refine ⟨?_, acc ++ [(.inr k, v')], upd_same, fp ++ fp', p1, fun b m => (List.mem_append.mp m).elim (fr b) fun m => ?_, p2, fun b u nb e => ?_⟩
      · rw [upd_ne hne, ← ha]
        have e1 : H' a = some (.frz o (.dK kvs)) := by rw [ha, l.at_]
        rw [e1]
        exact s' _ _ e1
      · have z := fr' b m
        cases e : Hl b with
        | none => rfl
        | some w =>
          have nb : b ≠ D := fun z2 => by
            subst z2
            rw [hacc] at z
            cases z
          rw [kp b w nb e] at z
          cases z
      · rw [upd_ne nb]
        exact s' _ _ (kp b u nb e)
    · rintro σ' H' ⟨⟨x0, rfl⟩, ha, acc, fp, hacc, ok, fr, nD, kp⟩
      refine nx _ _ ha ?_
      simp
      rw [List.length_map, hlen, List.take_length] at ok
      have nda : a ∉ fp := fun m => by
        have := fr a m
        rw [l.at_] at this
        cases this
      have ea : upd H D (.dK []) a = H a := upd_ne hne
      refine q _ _ (D :: fp) (fun b u e => ?_) (.tab (by rw [un_ne hne.symm]; exact hacc) (ok.stay fun b m => un_ne fun (e : b = a) => nda (e ▸ m)) nD) fun b m => ?_
      · by_cases eb : b = a
        · subst eb
          rw [un_at, ea, e]
        · rw [un_ne eb]
          have nb : b ≠ D := fun z => by subst z; rw [hD] at e; cases e
          exact kp b u nb (by rw [sHl b eb nb, e])
      · rcases List.mem_cons.mp m with e | m
        · exact e ▸ hD
        · have z := fr b m
          have nb : b ≠ a := fun (e : b = a) => nda (e ▸ m)
          have nb2 : b ≠ D := fun (e : b = D) => nD (e ▸ m)
          rw [sHl b nb nb2] at z
          exact z
end K23
end
section
set_option Elab.async false
set_option maxRecDepth 100000
set_option maxHeartbeats 1000000
namespace K23
open PySem PySem.Spec PyProof.Rows L2 RD
variable {K : PySem.W.Frag}
theorem goes_into_ok (n : Nat) (H : Hp) (v : V) (d : Doc) (s : Stp) (Q : VK) (E : XK) (r : Rep H v d) (q : Q (.bl (kid d s).isSome) H) : run (pg.tb K) (n + 1) d_goes_into [v, s.v] H Q E := by
  rw [r_goes_into]
  refine ⟨rfl, ?_⟩
  cases s with
  | ix k =>
    cases r with
    | num i => simpa [L2.start, Stp.v, kid] using q
    | txt i => simpa [L2.start, Stp.v, kid] using q
    | row h r =>
      rename_i a vs ds
      simp [L2.start, Stp.v, isi_lst h, len_lst h]
      have e : (decide (k < vs.length)) = (kid (.row ds) (.ix k)).isSome := by
        rw [r.length]
        show _ = (ds[k]?).isSome
        rw [Bool.eq_iff_iff]
        simp
      rw [e]
      exact q
    | tab h r => simpa [L2.start, Stp.v, isi_dK h, kid] using q
  | nm z =>
    cases r with
    | num i => simpa [L2.start, Stp.v, kid] using q
    | txt i => simpa [L2.start, Stp.v, kid] using q
    | row h r => simpa [L2.start, Stp.v, isi_lst h, kid] using q
    | tab h r =>
      rename_i a kvs ks
      have q : Q (.bl (lkK ks z).isSome) H := q
      rcases r.val (k := z) with ⟨e1, e2⟩ | ⟨v, d, e1, e2, _⟩
      · rw [e2] at q
        simpa [L2.start, Stp.v, isi_dK h, inA, h, keyOf, e1] using q
      · rw [e2] at q
        simpa [L2.start, Stp.v, isi_dK h, inA, h, keyOf, e1] using q
theorem pathGet {p : List Stp} {i : Nat} {x : V} (h : (p.map Stp.v)[i]? = some x) : ∃ s, p[i]? = some s ∧ x = s.v := by
  rw [List.getElem?_map] at h
  obtain ⟨s, e, rfl⟩ := Option.map_eq_some_iff.mp h
  exact ⟨s, e, rfl⟩
theorem law_at_ok (n : Nat) (H : Hp) (v pv x : V) (p : List Stp) (Q : VK) (E : XK) (hp : PathAt H pv p) (hx : walk H v p = some x) (q : Q x H) : run (pg.tb K) (n + 1) d_law_at [v, pv] H Q E := by
  rw [r_law_at]
  refine ⟨rfl, ?_⟩
  obtain ⟨b, rfl, hb⟩ := hp
  simp [L2.start]
  refine forA_tup ?_
  simp
  refine ⟨⟨_, sqT_vw hb⟩, forW_by jt (fun i σ' H' => H' = H ∧ ∃ y st, σ' = [some y, some (.ref b), st] ∧ walk H v (p.take i) = some y) (fun i σ' H' z => by rw [z.1]; exact hb) ⟨rfl, _, _, rfl, rfl⟩ ?_ ?_⟩
  · rintro i x' σ' H' hx' ⟨rfl, y, st, rfl, hy⟩
    obtain ⟨s, hs, rfl⟩ := pathGet hx'
    have h1 := walk_take (H := H') (v := v) hs
    rw [hy] at h1
    obtain ⟨z, hz⟩ := walk_pre hx (i + 1)
    rw [hz] at h1
    simp
    exact ⟨z, h1.symm, hz⟩
  · rintro σ' H' ⟨rfl, y, st, rfl, hy⟩
    rw [List.length_map, List.take_length, hx] at hy
    cases hy
    simpa using q
theorem law_stands_ok (n : Nat) (H : Hp) (v pv : V) (d : Doc) (p : List Stp) (Q : VK) (E : XK) (hp : PathAt H pv p) (r : Rep H v d) (q : Q (.bl (sub d p).isSome) H) : run (pg.tb K) (n + 1) d_law_stands [v, pv] H Q E := by
  rw [r_law_stands]
  refine ⟨rfl, ?_⟩
  obtain ⟨b, rfl, hb⟩ := hp
  simp only [L2.start]
  simp
  refine forA_tup ?_
  simp
  refine ⟨⟨_, sqT_vw hb⟩, forW_by jt (fun i σ' H' => H' = H ∧ ∃ y st c, σ' = [some y, some (.ref b), st] ∧ Rep H y c ∧ sub d (p.take i) = some c) (fun i σ' H' z => by rw [z.1]; exact hb) ⟨rfl, _, _, _, rfl, r, rfl⟩ ?_ ?_⟩
  · rintro i x' σ' H' hx' ⟨rfl, y, st, c, rfl, ry, hc⟩
    obtain ⟨s, hs, rfl⟩ := pathGet hx'
    have h1 := sub_take_succ (d := d) hs
    rw [hc] at h1
    replace h1 : sub d (p.take (i + 1)) = kid c s := h1
    have no : kid c s = none → Q (.bl false) H' := fun e => by
      rw [e] at h1
      have := sub_none_take _ h1
      rw [this] at q
      exact q
    have yes : ∀ k, kid c s = some k → ∃ v, ixV H' y s.v = some v ∧ ∃ y_1 st_1 c_1, [some v, some (V.ref b), some s.v] = [some y_1, some (V.ref b), st_1] ∧ Rep H' y_1 c_1 ∧ sub d (p.take (i + 1)) = some c_1 := fun k hk => by
      obtain ⟨x, hx, rx⟩ := ry.kid hk
      exact ⟨x, hx, x, _, k, rfl, rx, by rw [h1, hk]⟩
    cases s with
    | ix k =>
      cases ry with
      | num i => simpa [Stp.v] using no rfl
      | txt i => simpa [Stp.v] using no rfl
      | row h r =>
        rename_i a vs ds
        have hl := r.length
        by_cases hk : k < ds.length
        · have := yes _ (show kid (.row ds) (.ix k) = some ds[k] from List.getElem?_eq_getElem hk)
          have h2 : ¬ vs.length ≤ k := by omega
          simpa [Stp.v, isi_lst h, len_lst h, h2] using this
        · have := no (show kid (.row ds) (.ix k) = none from List.getElem?_eq_none (by omega))
          have h2 : vs.length ≤ k := by omega
          simpa [Stp.v, isi_lst h, len_lst h, h2] using this
      | tab h r => simpa [Stp.v, isi_dK h] using no rfl
    | nm z =>
      cases ry with
      | num i => simpa [Stp.v] using no rfl
      | txt i => simpa [Stp.v] using no rfl
      | row h r => simpa [Stp.v, isi_lst h] using no rfl
      | tab h r =>
        rename_i a kvs ks
        rcases r.val (k := z) with ⟨e1, e2⟩ | ⟨v, d, e1, e2, _⟩
        · have := no (show kid (.tab ks) (.nm z) = none from e2)
          simpa [Stp.v, isi_dK h, inA, h, keyOf, e1] using this
        · have := yes _ (show kid (.tab ks) (.nm z) = some d from e2)
          simpa [Stp.v, isi_dK h, inA, h, keyOf, e1] using this
  · rintro σ' H' ⟨rfl, y, st, c, rfl, ry, hc⟩
    rw [List.length_map, List.take_length] at hc
    rw [hc] at q
    simpa using q
theorem has_part_ok (n : Nat) (H : Hp) (v pv : V) (d : Doc) (p : List Stp) (Q : VK) (E : XK) (hp : PathAt H pv p) (r : Rep H v d) (q : Q (.bl (sub d p).isSome) H) : run (pg.tb K) (n + 2) d_has_part [v, pv] H Q E := by
  rw [r_has_part]
  refine ⟨rfl, ?_⟩
  obtain ⟨b, rfl, hb⟩ := hp
  simp only [L2.start]
  simp
  refine forA_tup ?_
  simp
  refine ⟨⟨_, sqT_vw hb⟩, forW_by jt (fun i σ' H' => H' = H ∧ ∃ y st c, σ' = [some y, some (.ref b), st] ∧ Rep H y c ∧ sub d (p.take i) = some c) (fun i σ' H' z => by rw [z.1]; exact hb) ⟨rfl, _, _, _, rfl, r, rfl⟩ ?_ ?_⟩
  · rintro i x' σ' H' hx' ⟨rfl, y, st, c, rfl, ry, hc⟩
    obtain ⟨s, hs, rfl⟩ := pathGet hx'
    have h1 := sub_take_succ (d := d) hs
    rw [hc] at h1
    replace h1 : sub d (p.take (i + 1)) = kid c s := h1
    simp
    refine goes_into_ok n H' y c s _ _ ry ?_
    simp
    cases hk : kid c s with
    | none =>
      rw [hk] at h1
      have := sub_none_take _ h1
      rw [this] at q
      simpa using q
    | some k =>
      obtain ⟨x, hx, rx⟩ := ry.kid hk
      simp
      exact ⟨x, hx, k, rx, by rw [h1, hk]⟩
  · rintro σ' H' ⟨rfl, y, st, c, rfl, ry, hc⟩
    rw [List.length_map, List.take_length] at hc
    rw [hc] at q
    simpa using q
theorem found_at_ok (n : Nat) (H : Hp) (v pv : V) (d : Doc) (p : List Stp) (Q : VK) (E : XK) (hp : PathAt H pv p) (r : Rep H v d) (q : ∀ x c, walk H v p = some x → sub d p = some c → Rep H x c → Q x H) (e : sub d p = none → E (.ref (He.ga K "NoPart")) none H) : run (pg.tb K) (n + 3) d_found_at [v, pv] H Q E := by
  rw [r_found_at]
  refine ⟨rfl, ?_⟩
  simp only [L2.start]
  simp
  refine has_part_ok n H v pv d p _ _ hp r ?_
  simp
  cases hs : sub d p with
  | none => simpa using e hs
  | some c =>
    simp
    obtain ⟨b, rfl, hb⟩ := hp
    obtain ⟨x, hx, rx⟩ := r.walk hs
    refine forA_tup ?_
    simp
    refine ⟨⟨_, sqT_vw hb⟩, forW_by jt (fun i σ' H' => H' = H ∧ ∃ y st, σ' = [some y, some (.ref b), st] ∧ walk H v (p.take i) = some y) (fun i σ' H' z => by rw [z.1]; exact hb) ⟨rfl, _, _, rfl, rfl⟩ ?_ ?_⟩
    · rintro i x' σ' H' hx' ⟨rfl, y, st, rfl, hy⟩
      obtain ⟨s, hs, rfl⟩ := pathGet hx'
      have h1 := walk_take (H := H') (v := v) hs
      rw [hy] at h1
      obtain ⟨z, hz⟩ := walk_pre hx (i + 1)
      rw [hz] at h1
      simp
      exact ⟨z, h1.symm, hz⟩
    · rintro σ' H' ⟨rfl, y, st, rfl, hy⟩
      rw [List.length_map, List.take_length, hx] at hy
      cases hy
      simpa using q _ _ hx hs rx
theorem cut_last {q : List Stp} {s : Stp} : cutV ((q ++ [s]).map Stp.v) none (some (-1)) = q.map Stp.v := by
  have e : (-1 + ((q.length : Int) + 1)).toNat = q.length := by omega
  simp [cutV, HT.sIx, e]
theorem holder_at_ok (n : Nat) (H : Hp) (v pv : V) (d : Doc) (p : List Stp) (s : Stp) (Q : VK) (E : XK) (hp : PathAt H pv (p ++ [s])) (r : Rep H v d) (q : ∀ x c H', Same H H' → walk H' v p = some x → sub d p = some c → Rep H' x c → Q x H') (e : ∀ H', Same H H' → sub d p = none → E (.ref (He.ga K "NoPart")) none H') : run (pg.tb K) (n + 4) d_holder_at [v, pv] H Q E := by
  rw [r_holder_at]
  refine ⟨rfl, ?_⟩
  obtain ⟨b, rfl, hb⟩ := hp
  simp only [L2.start]
  simp [len_tup hb]
  simp [rSl, hb]
  intro w H' sm tw
  refine found_at_ok n H' v w d p _ _ ?_ (r.same sm) (fun x c h1 h2 h3 => q x c H' sm h1 h2 h3) (fun h => e H' sm h)
  have z := @cut_last p s
  simp only [List.map_append, List.map_cons, List.map_nil] at z
  rw [z] at tw
  exact tw
end K23
end
section
set_option Elab.async false
set_option maxRecDepth 100000
set_option maxHeartbeats 1000000
namespace K23
open PySem PySem.Spec PyProof.Rows L2 RD
variable {K : PySem.W.Frag}
theorem path_cases (p : List Stp) : p = [] ∨ ∃ q s, p = q ++ [s] := by
  rcases List.eq_nil_or_concat p with h | ⟨q, s, h⟩
  · exact .inl h
  · exact .inr ⟨q, s, by rw [h, List.concat_eq_append]⟩
theorem atI_path {q : List Stp} {s : Stp} : atI ((q ++ [s]).map Stp.v) (-1) = some s.v := by
  rw [List.map_append]
  exact atI_last _ _
/-- how the cell at a path is set anew in a tree of one's own -/
theorem set_at {H1 H2 : Hp} {made y x : V} {d c e : Doc} {fp fy : List Addr} {q : List Stp} {s : Stp} (om : Own H1 made d fp) (w : d.wf) (hx : walk H1 made q = some x) (hc : sub d q = some c) (hk : (kid c s).isSome = true) (sm : Same H1 H2) (oy : Own H2 y e fy) (fr : ∀ a ∈ fy, H1 a = none) {Q : Hp → Prop}
    (k : ∀ a u fp', a ∈ fp → Own (upd H2 a u) made (put d (q ++ [s]) e) fp' → (∀ b ∈ fp', b ∈ fp ∨ b ∈ fy) → Q (upd H2 a u)) : rSet x s.v y H2 Q := by
  obtain ⟨x', fx, wx, l⟩ := om.path2 hc
  rw [hx] at wx
  cases wx
  obtain ⟨kc, hkc⟩ := Option.isSome_iff_exists.mp hk
  have there : ∀ a ∈ fp, H2 a = H1 a := fun a m => by
    obtain ⟨u, h⟩ := om.there a m
    rw [h, sm a u h]
  refine (l.own.same sm).setKid hkc (sub_wf w hc) oy (fun a m z => ?_) fun a u fp' ev ha o' h' => ?_
  · obtain ⟨u, h⟩ := om.there a (l.inn a z)
    rw [fr a m] at h
    cases h
  · obtain ⟨f2, o2, h2, _⟩ := l.set (upd H2 a u) _ fp' o' (fun b m z => by
      rw [upd_ne (fun (e : b = a) => z (e ▸ ha))]
      exact there b m) fun b m => (h' b m).imp id fun m z => by
        obtain ⟨u, h⟩ := om.there b z
        rw [fr b m] at h
        cases h
    rw [← put_snoc e hc hk] at o2
    exact k a u f2 (l.inn a ha) o2 fun b m => (h2 b m).elim .inl fun m => (h' b m).imp (l.inn b) id
theorem changed_at_ok (n : Nat) (H : Hp) (v pv vv : V) (d e : Doc) (p : List Stp) (Q : VK) (E : XK) (hp : PathAt H pv p) (r : Rep H v d) (re : Rep H vv e) (w : d.wf) (we : e.wf) (hd : d.depth < n + 5) (he : e.depth < n + 5)
    (q : ∀ v' H' fp, (sub d p).isSome = true → Same H H' → Own H' v' (put d p e) fp → (∀ a ∈ fp, H a = none) → Q v' H') (er : ∀ H', sub d p = none → Same H H' → E (.ref (He.ga K "NoPart")) none H') : run (pg.tb K) (n + 6) d_changed_at [v, pv, vv] H Q E := by
  rw [r_changed_at]
  refine ⟨rfl, ?_⟩
  obtain ⟨b, rfl, hb⟩ := hp
  simp only [L2.start]
  rcases path_cases p with rfl | ⟨qp, s, rfl⟩
  · simp [len_tup hb]
    exact copy_of_ok (n + 5) e he H vv _ _ re we fun v' H' fp s o fr => q v' H' fp rfl s o fr
  · simp [len_tup hb]
    refine copy_of_ok (n + 5) d hd H v _ _ r w fun made H1 fp s1 o1 fr1 => ?_
    refine holder_at_ok (n + 1) H1 made (.ref b) d qp s _ _ ⟨b, rfl, same_vw s1 hb⟩ o1.rep (fun x c H2 s2 hx hc rx => ?_) fun H' s' h => er H' (by rw [sub_snoc, h]; rfl) (s1.trans s')
    have hb2 : vw H2 b = some (.tup ((qp ++ [s]).map Stp.v)) := same_vw s2 (same_vw s1 hb)
    simp [ix_tup hb2]
    refine ⟨s.v, by simpa using atI_path, ?_⟩
    refine goes_into_ok (n + 4) H2 x c s _ _ rx ?_
    have hsub : sub d (qp ++ [s]) = kid c s := by rw [sub_snoc, hc]; rfl
    cases hk : kid c s with
    | none =>
      simp
      exact er H2 (by rw [hsub, hk]) (s1.trans s2)
    | some k =>
      simp
      refine copy_of_ok (n + 5) e he H2 vv _ _ (re.same (s1.trans s2)) we fun y H3 fy s3 oy fr3 => ?_
      have hb3 : vw H3 b = some (.tup ((qp ++ [s]).map Stp.v)) := same_vw s3 hb2
      refine ⟨s.v, ?_, ?_⟩
      · rw [ix_tup hb3]
        exact atI_path
      refine set_at (o1.same s2) w hx hc (by rw [hk]; rfl) s3 oy fr3 fun a u fp' ha o' h' => ?_
      refine q made _ fp' (by rw [hsub, hk]; rfl) (fun z o ez => ?_) o' fun z m => ?_
      · have : z ≠ a := fun ea => by
          subst ea
          rw [fr1 z ha] at ez
          cases ez
        rw [upd_ne this]
        exact s3 _ _ (s2 _ _ (s1 _ _ ez))
      · rcases h' z m with m | m
        · exact fr1 z m
        · exact same_none s1 (same_none s2 (fr3 z m))
end K23
end
section
set_option Elab.async false
set_option maxRecDepth 100000
set_option maxHeartbeats 1000000
namespace RD
open PySem PySem.Spec PyProof.Rows L2
theorem prsA_nil {H : Hp} : prsA H [] = some [] := rfl
theorem prsA_snoc {H : Hp} {p : Addr} {k : Key} {v : V} : ∀ {xs : List V} {kvs : List (Key × V)}, prsA H xs = some kvs → vw H p = some (.tup [kV k, v]) → prsA H (xs ++ [.ref p]) = some (kvs ++ [(k, v)])
  | [], kvs, h, e => by
    cases h
    show (match vw H p with
    | some (.tup [k, v]) => (keyOf k).bind fun k' => (prsA H []).map ((k', v) :: ·)
    | _ => none) = _
    rw [e]
    cases k <;> rfl
  | x :: r, kvs, h, e => by
    cases x with
    | ref q =>
      have h' : (match vw H q with
        | some (.tup [k, v]) => (keyOf k).bind fun k' => (prsA H r).map ((k', v) :: ·)
        | _ => none) = some kvs := h
      show (match vw H q with
        | some (.tup [k, v]) => (keyOf k).bind fun k' => (prsA H (r ++ [V.ref p])).map ((k', v) :: ·)
        | _ => none) = _
      split at h'
      · rename_i k1 v1 _
        cases hk : keyOf k1 with
        | none => rw [hk] at h'; cases h'
        | some k2 =>
          rw [hk] at h'
          have h2 : (prsA H r).map ((k2, v1) :: ·) = some kvs := h'
          cases hr : prsA H r with
          | none => rw [hr] at h2; cases h2
          | some t =>
            rw [hr] at h2
            cases h2
            show (prsA H (r ++ [V.ref p])).map ((k2, v1) :: ·) = _
            rw [prsA_snoc hr e]
            rfl
      · cases h'
    | _ => cases h
theorem prsA_keep {H H' : Hp} : ∀ {xs : List V} {kvs : List (Key × V)}, prsA H xs = some kvs → (∀ p ps, vw H p = some (.tup ps) → vw H' p = some (.tup ps)) → prsA H' xs = some kvs
  | [], kvs, h, s => h
  | x :: r, kvs, h, s => by
    cases x with
    | ref q =>
      have h' : (match vw H q with
        | some (.tup [k, v]) => (keyOf k).bind fun k' => (prsA H r).map ((k', v) :: ·)
        | _ => none) = some kvs := h
      show (match vw H' q with
        | some (.tup [k, v]) => (keyOf k).bind fun k' => (prsA H' r).map ((k', v) :: ·)
        | _ => none) = _
      split at h'
      · rename_i k1 v1 hq
        rw [s _ _ hq]
        show (keyOf k1).bind (fun k' => (prsA H' r).map ((k', v1) :: ·)) = _
        cases hk : keyOf k1 with
        | none => rw [hk] at h'; cases h'
        | some k2 =>
          rw [hk] at h'
          have h2 : (prsA H r).map ((k2, v1) :: ·) = some kvs := h'
          cases hr : prsA H r with
          | none => rw [hr] at h2; cases h2
          | some t =>
            rw [hr] at h2
            cases h2
            show (prsA H' r).map ((k2, v1) :: ·) = _
            rw [prsA_keep hr s]
            rfl
      · cases h'
    | _ => cases h
theorem merge_go : ∀ {more acc : List (Key × V)}, ((acc ++ more).map (·.1)).Nodup → mergeK acc more = acc ++ more
  | [], acc, _ => by simp [mergeK]
  | p :: r, acc, h => by
    have e : putK acc p.1 p.2 = acc ++ [p] := putK_new _ (valV_none fun q hq e => by
      rw [List.map_append, List.nodup_append] at h
      exact h.2.2 q.1 (List.mem_map.mpr ⟨q, hq, rfl⟩) p.1 (List.mem_map.mpr ⟨p, List.mem_cons_self, rfl⟩) e)
    show mergeK (putK acc p.1 p.2) r = _
    rw [e, merge_go (by simpa using h)]
    simp
theorem merge_nil {more : List (Key × V)} (h : (more.map (·.1)).Nodup) : mergeK [] more = more := merge_go (by simpa using h)
/-- an unlocked dict's lock does not trouble what is elsewhere -/
theorem OwnL.un {H H' : Hp} {d : Addr} {vs : List V} {ds : List Doc} {fp : List Addr} (o : OwnL H' vs ds fp) (h : d ∉ fp) : OwnL (un H d H') vs ds fp := o.stay fun _ m => un_ne fun e => h (e ▸ m)
theorem OwnK.un {H H' : Hp} {d : Addr} {vs : List (Key × V)} {ds : List (Str × Doc)} {fp : List Addr} (o : OwnK H' vs ds fp) (h : d ∉ fp) : OwnK (un H d H') vs ds fp := o.stay fun _ m => un_ne fun e => h (e ▸ m)
end RD
namespace K23
open PySem PySem.Spec PyProof.Rows L2 RD
variable {K : PySem.W.Frag}
theorem law_copy_ok (n : Nat) (d : Doc) (hn : d.depth < n) (H : Hp) (v : V) (Q : VK) (E : XK) (r : Rep H v d) (w : d.wf)
    (q : ∀ v' H' fp, Same H H' → Own H' v' d fp → (∀ a ∈ fp, H a = none) → Q v' H') : run (pg.tb K) n d_law_copy [v] H Q E := by
  induction n generalizing d H v Q E with
  | zero => omega
  | succ n ih =>
  rw [r_law_copy]
  refine ⟨rfl, ?_⟩
  cases r with
  | num i =>
    simp [L2.start]
    exact q _ _ _ (Same.refl H) (.num i) (fun _ h => by cases h)
  | txt z =>
    simp [L2.start]
    exact q _ _ _ (Same.refl H) (.txt z) (fun _ h => by cases h)
  | row h r =>
    rename_i a vs ds
    rw [Doc.wf] at w
    rw [Doc.depth] at hn
    have hlen := r.length
    simp [L2.start, isi_lst h]
    refine lcA_lst ?_
    simp
    refine ⟨⟨vs, sqL_vw h⟩, lcW_by jl (fun D i acc H' => Same H H' ∧ ∃ fp, OwnL H' acc (ds.take i) fp ∧ (∀ a ∈ fp, H a = none) ∧ D ∉ fp) (by omega) (fun D i acc H' _ iv => same_vw iv.1 h) (fun D hD => ⟨same_new hD _, [], by simpa using OwnL.nil, by simp, by simp⟩) ?_ ?_⟩
    · rintro D i x acc H' Qy hD hx ha hl ⟨s, fp, o, fr, nD⟩ hQ
      simp
      obtain ⟨di, hdi, ri⟩ := r.get hx
      refine ih di (by have := depthL_mem (mem_of_get hdi); omega) H' x _ _ (ri.same s) (wfL_mem w.2 (mem_of_get hdi)) fun v' H'' fp' s' o' fr' => ?_
      obtain ⟨p1, p2⟩ := OwnL.push (o' := .lst (acc ++ [v'])) o hdi s' o' fr' nD ha
      exact hQ v' H'' (s' _ _ ha) ⟨same_upd hD (s.trans s'), fp ++ fp', p1, fun a m => (List.mem_append.mp m).elim (fr a) fun m => same_none s (fr' a m), p2⟩
    · rintro D acc H' hD ha hl ⟨s, fp, o, fr, nD⟩
      rw [hlen, List.take_length] at o
      exact q _ _ _ s (.row ha o nD) fun a m => (List.mem_cons.mp m).elim (fun e => e ▸ hD) (fr a)
  | tab h r =>
    rename_i a kvs ks
    rw [Doc.wf] at w
    rw [Doc.depth] at hn
    have hlen := r.length
    simp [L2.start, isi_dK h]
    refine lcA_keys (d := a) h (fun Hl R q => by simpa using q) fun Hl o Q' l nx => ?_
    refine lcW_by jk (fun D i acc H' => Same Hl H' ∧ ∃ kv' fp, prsA H' acc = some kv' ∧ OwnK H' kv' (ks.take i) fp ∧ (∀ b ∈ fp, Hl b = none) ∧ D ∉ fp) (by rw [List.length_map]; omega) (fun D i acc H' _ iv => iv.1 _ _ l.at_) (fun D hD => ⟨same_new hD _, [], [], rfl, by simpa using OwnK.nil, by simp, by simp⟩) ?_ ?_
    · rintro D i x acc H' Qy hD hx ha hl ⟨s, kv', fp, hpr, ok, fr, nD⟩ hQ
      rw [List.getElem?_map] at hx
      obtain ⟨p, hp, rfl⟩ := Option.map_eq_some_iff.mp hx
      obtain ⟨k, di, hk, hdi, ri⟩ := r.get hp
      have hv : vw H' a = some (.dK kvs) := by unfold vw; rw [s _ _ l.at_]
      obtain ⟨pk, pv⟩ := p
      cases hk
      simp [kV, ix_dK hv, keyOf, valV_get (r.keyNodup w.2.1) hp]
      refine ih di (by have : di.depth ≤ _ := depthK_mem (mem_of_get hdi); omega) H' pv _ _ ((l.rep ri).same s) (wfK_mem w.2.2 (mem_of_get hdi)) fun v' H'' fp' s' o' fr' => ?_
      refine ⟨by decide, fun t ht => ?_⟩
      have hD2 : H'' D = some (.lst acc) := s' _ _ ha
      have tD : D ≠ t := fun e => by rw [e, ht] at hD2; cases hD2
      have s2 : Same H' (upd H'' t (.tup [.str k, v'])) := s'.trans (same_new ht _)
      have o2 : Own (upd H'' t (.tup [.str k, v'])) v' di fp' := o'.same (same_new ht _)
      obtain ⟨p1, p2⟩ := OwnK.push (o' := .lst (acc ++ [.ref t])) ok hdi s2 o2 fr' nD ha
      refine hQ (.ref t) _ (by rw [upd_ne tD]; exact hD2) ⟨same_upd hD (s.trans s2), kv' ++ [(.inr k, v')], fp ++ fp', prsA_snoc (k := .inr k) ?_ ?_, p1, fun b m => (List.mem_append.mp m).elim (fr b) fun m => same_none s (fr' b m), p2⟩
      · refine prsA_keep hpr fun z ps hz => ?_
        have zD : z ≠ D := fun e => by subst e; unfold vw at hz; rw [ha] at hz; cases hz
        rw [vw_upd_ne zD]
        exact same_vw s2 hz
      · rw [vw_upd_ne (fun e => tD e.symm)]
        exact vw_upd_same (fun _ _ z => by cases z)
    · rintro D acc H' hD ha hl ⟨s, kv', fp, hpr, ok, fr, nD⟩
      rw [List.length_map, hlen, List.take_length] at ok
      have nda : a ∉ fp := fun m => by
        have := fr a m
        rw [l.at_] at this
        cases this
      have hnd := ok.rep.keyNodup w.2.1
      have ea : H' a = Hl a := by rw [l.at_]; exact s _ _ l.at_
      have haD : a ≠ D := fun e => by subst e; rw [l.at_] at hD; cases hD
      refine nx _ _ ea ⟨_, acc, kv', rfl, ?_, ?_, fun p hp => ?_⟩
      · show (match vw (RD.un H a H') D with
          | some (.lst xs) => some xs
          | _ => none) = some acc
        have : vw (RD.un H a H') D = some (.lst acc) := vw_lst (by rw [un_ne haD.symm]; exact ha)
        rw [this]
      · refine prsA_keep hpr fun z ps hz => ?_
        have za : z ≠ a := fun e => by subst e; unfold vw at hz; rw [ea, l.at_] at hz; cases hz
        unfold vw at hz ⊢
        rw [un_ne za]
        exact hz
      · rw [merge_nil hnd]
        have np : p ∉ fp := fun m => by
          obtain ⟨u, e⟩ := ok.there p m
          rw [un_ne (fun (e2 : p = a) => nda (e2 ▸ m)), e] at hp
          cases hp
        have hp0 : H p = none := same_none (l.same s) hp
        refine q _ _ (p :: fp) ((l.same s).trans (same_new hp _)) (.tab upd_same ((ok.un nda).stay fun b m => upd_ne fun (e : b = p) => np (e ▸ m)) np) fun b m => ?_
        rcases List.mem_cons.mp m with rfl | m
        · exact hp0
        · exact l.none.mp (fr b m)
end K23
end
section
set_option Elab.async false
set_option maxRecDepth 100000
set_option maxHeartbeats 1000000
namespace RD
open PySem PySem.Spec PyProof.Rows L2
theorem RepK.txts {H : Hp} : ∀ {kvs : List (Key × V)} {ks : List (Str × Doc)}, RepK H kvs ks → txts (kvs.map fun kv => kV kv.1) = some (ks.map (·.1))
  | _, _, .nil => rfl
  | _, _, .cons (k := k) (kvs := kvs) (ks := ks) h r => by
    show (RD.txts (kvs.map fun kv => kV kv.1)).map (k :: ·) = _
    rw [r.txts]
    rfl
theorem srt_dK {H : Hp} {a : Addr} {kvs : List (Key × V)} {ks : List (Str × Doc)} (h : vw H a = some (.dK kvs)) (r : RepK H kvs ks) : srtA H (.ref a) = some (ks.map (·.1)) := by
  simp only [srtA, h]
  exact r.txts
theorem OwnL.drop {H : Hp} {vs : List V} {ds : List Doc} {fr : List Addr} {i : Nat} {x : V} (o : OwnL H (vs.drop i) (ds.drop i) fr) (hx : vs[i]? = some x) : ∃ d f1 f2, ds[i]? = some d ∧ Own H x d f1 ∧ OwnL H (vs.drop (i + 1)) (ds.drop (i + 1)) f2 ∧ (∀ a ∈ f1, a ∉ f2) ∧ (∀ b ∈ f1, b ∈ fr) ∧ ∀ b ∈ f2, b ∈ fr := by
  have hi := lt_of_get hx
  have hx2 : vs[i] = x := by rw [List.getElem?_eq_getElem hi] at hx; exact Option.some.inj hx
  have hl := o.rep.length
  rw [List.length_drop, List.length_drop] at hl
  have hd : i < ds.length := by omega
  rw [List.drop_eq_getElem_cons (l := vs) (i := i) hi, List.drop_eq_getElem_cons (l := ds) (i := i) hd, hx2] at o
  cases o with
  | cons oi orest dj => exact ⟨_, _, _, List.getElem?_eq_getElem hd, oi, orest, dj, fun b m => List.mem_append_left _ m, fun b m => List.mem_append_right _ m⟩
theorem OwnK.drop {H : Hp} {vs : List (Key × V)} {ds : List (Str × Doc)} {fr : List Addr} {i : Nat} {x : Key × V} (o : OwnK H (vs.drop i) (ds.drop i) fr) (hx : vs[i]? = some x) : ∃ k d f1 f2, x.1 = .inr k ∧ ds[i]? = some (k, d) ∧ Own H x.2 d f1 ∧ OwnK H (vs.drop (i + 1)) (ds.drop (i + 1)) f2 ∧ (∀ a ∈ f1, a ∉ f2) ∧ (∀ b ∈ f1, b ∈ fr) ∧ ∀ b ∈ f2, b ∈ fr := by
  have hi := lt_of_get hx
  have hx2 : vs[i] = x := by rw [List.getElem?_eq_getElem hi] at hx; exact Option.some.inj hx
  have hl := o.rep.length
  rw [List.length_drop, List.length_drop] at hl
  have hd : i < ds.length := by omega
  rw [List.drop_eq_getElem_cons (l := vs) (i := i) hi, List.drop_eq_getElem_cons (l := ds) (i := i) hd, hx2] at o
  have hd2 := List.getElem?_eq_getElem hd
  generalize ds[i] = di at o hd2
  cases o with
  | cons oi orest dj => exact ⟨_, _, _, _, rfl, hd2, oi, orest, dj, fun b m => List.mem_append_left _ m, fun b m => List.mem_append_right _ m⟩
end RD
namespace K23
open PySem PySem.Spec PyProof.Rows L2 RD
variable {K : PySem.W.Frag}
theorem law_alike_ok (n : Nat) (d : Doc) (hn : d.depth < n) (H : Hp) (v v2 : V) (Q : VK) (E : XK) (r : Rep H v d) (r2 : Rep H v2 d) (w : d.wf)
    (q : ∀ H', Same H H' → Q (.bl true) H') : run (pg.tb K) n d_law_alike [v, v2] H Q E := by
  induction n generalizing d H v v2 Q E with
  | zero => omega
  | succ n ih =>
  rw [r_law_alike]
  refine ⟨rfl, ?_⟩
  cases r with
  | num i =>
    cases r2
    simp [L2.start]
    exact q _ (Same.refl H)
  | txt z =>
    cases r2
    simp [L2.start]
    exact eqI (.scal rfl) (by simpa using q _ (Same.refl H))
  | row h r =>
    rename_i a vs ds
    cases r2 with
    | row h2 r2 =>
    rename_i a2 vs2
    rw [Doc.wf] at w
    rw [Doc.depth] at hn
    have hl := r.length
    have hl2 := r2.length
    have e0 : vs2.length = vs.length := by omega
    simp [L2.start, isi_lst h, isi_lst h2, len_lst h, len_lst h2, e0]
    refine lcA_rng1 ?_
    simp [len_lst h]
    refine ⟨by omega, lcW_by jr (fun D i acc H' => Same H H' ∧ acc = List.replicate i (.bl true)) (by simp; omega) (fun D i acc H' _ iv => trivial) (fun D hD => ⟨same_new hD _, rfl⟩) ?_ ?_⟩
    · rintro D i x acc H' Qy hD hx ha hl' ⟨s, e⟩ hQ
      obtain ⟨hi, rfl⟩ := rngV_get hx
      have hi : i < vs.length := by simpa using hi
      obtain ⟨di, hdi, ri⟩ := r.get (List.getElem?_eq_getElem hi)
      obtain ⟨x2, hx2, ri2⟩ := r2.get' hdi
      simp [ix_lst (same_vw s h)]
      refine ⟨vs[i], atI_nat (List.getElem?_eq_getElem hi), x2, ?_, ?_⟩
      · rw [ix_lst (same_vw s h2)]
        exact atI_nat hx2
      refine ih di (by have := depthL_mem (mem_of_get hdi); omega) H' _ _ _ _ (ri.same s) (ri2.same s) (wfL_mem w.2 (mem_of_get hdi)) fun H'' s' => ?_
      refine hQ _ H'' (s' _ _ ha) ⟨same_upd hD (s.trans s'), ?_⟩
      rw [e, rep_snoc]
    · rintro D acc H' hD ha hl' ⟨s, e⟩
      simp [lstA_vw (vw_lst ha)]
      rw [e]
      exact ⟨_, blsA_rep _, by simpa using q H' s⟩
  | tab h r =>
    rename_i a kvs ks
    cases r2 with
    | tab h2 r2 =>
    rename_i a2 kvs2
    have w' := w
    rw [Doc.wf] at w
    rw [Doc.depth] at hn
    have hlen := r.length
    simp [L2.start, isi_dK h, isi_dK h2, srt_dK h r]
    refine ⟨by omega, fun ys p hp sp hnp => ⟨ks.map (·.1), ?_, by rw [List.length_map]; omega, fun zs p2 hp2 sp2 hnp2 => ?_⟩⟩
    · exact srt_dK (same_vw (same_new hnp _) h2) (r2.same (same_new hnp _))
    · have e := sorted_one hp sp hp2 sp2
      subst e
      have sm : Same H (upd (upd H p (.lst (ys.map V.str))) p2 (.lst (ys.map V.str))) := (same_new hnp _).trans (same_new hnp2 _)
      have fl : (ys.map V.str).all flatV = true := by simp [flatV]
      refine neI (.flatL (xs := ys.map V.str) (ys := ys.map V.str) (vw_lst ?_) (vw_lst upd_same) rfl fl fl) ?_
      · exact (same_new hnp2 _) _ _ upd_same
      rw [eqStrs]
      simp
      generalize (upd (upd H p (.lst (ys.map V.str))) p2 (.lst (ys.map V.str))) = H1 at sm
      have h1 := same_vw sm h
      refine lcA_keys (d := a) h1 (fun Hl R q => by simpa using q) fun Hl o Q' l nx => ?_
      refine lcW_by jk (fun D i acc H' => Same Hl H' ∧ acc = List.replicate i (.bl true)) (by rw [List.length_map]; omega) (fun D i acc H' _ iv => iv.1 _ _ l.at_) (fun D hD => ⟨same_new hD _, rfl⟩) ?_ ?_
      · rintro D i x acc H' Qy hD hx ha hl' ⟨s, e⟩ hQ
        rw [List.getElem?_map] at hx
        obtain ⟨p, hp, rfl⟩ := Option.map_eq_some_iff.mp hx
        obtain ⟨k, di, hk, hdi, ri⟩ := r.get hp
        have hv : vw H' a = some (.dK kvs) := by unfold vw; rw [s _ _ l.at_]
        have hv2 : vw H' a2 = some (.dK kvs2) := same_vw s (by rw [l.vw]; exact same_vw sm h2)
        obtain ⟨pk, pv⟩ := p
        cases hk
        have r2' := ((l.repK (r2.same sm)).same s)
        have hlk : lkK ks k = some di := by
          have := (r.val (k := k))
          rcases this with ⟨e1, _⟩ | ⟨v, d, e1, e2, _⟩
          · rw [valV_get (r.keyNodup w.2.1) hp] at e1; cases e1
          · rw [e2]
            have hks : (ks.map fun p => (p.1, V.non)).length = ks.length := by simp
            have : ∀ {ks : List (Str × Doc)} {i : Nat}, (ks.map (·.1)).Nodup → ks[i]? = some (k, di) → lkK ks k = some di := by
              intro ks
              induction ks with
              | nil => intro i _ h; cases h
              | cons q t iht =>
                intro i hn hh
                obtain ⟨n1, n2⟩ := List.nodup_cons.mp (show (q.1 :: t.map (·.1)).Nodup from hn)
                cases i with
                | zero => cases hh; exact lkK_pos
                | succ i =>
                  have hh' : t[i]? = some (k, di) := hh
                  have : q.1 ≠ k := fun e => n1 (by rw [e]; exact List.mem_map.mpr ⟨_, mem_of_get hh', rfl⟩)
                  obtain ⟨q1, q2⟩ := q
                  rw [lkK_neg this]
                  exact iht n2 hh'
            rw [this w.2.1 hdi] at e2
            exact e2.symm
        obtain ⟨x2, hx2, ri2⟩ := r2'.get2 hlk
        simp [kV, ix_dK hv, ix_dK hv2, keyOf, valV_get (r.keyNodup w.2.1) hp, hx2]
        refine ih di (by have : di.depth ≤ _ := depthK_mem (mem_of_get hdi); omega) H' _ _ _ _ ((l.rep (ri.same sm)).same s) ri2 (wfK_mem w.2.2 (mem_of_get hdi)) fun H'' s' => ?_
        refine hQ _ H'' (s' _ _ ha) ⟨same_upd hD (s.trans s'), ?_⟩
        rw [e, rep_snoc]
      · rintro D acc H' hD ha hl' ⟨s, e⟩
        have ea : H' a = Hl a := by rw [l.at_]; exact s _ _ l.at_
        have haD : a ≠ D := fun e => by subst e; rw [l.at_] at hD; cases hD
        refine nx _ _ ea ?_
        have : vw (RD.un H1 a H') D = some (.lst acc) := vw_lst (by rw [un_ne haD.symm]; exact ha)
        simp [lstA_vw this]
        rw [e]
        exact ⟨_, blsA_rep _, by simpa using q _ (sm.trans (l.same s))⟩
theorem law_spoil_ok (n : Nat) (d : Doc) (hn : d.depth < n) (H : Hp) (v : V) (fp : List Addr) (Q : VK) (E : XK) (o : Own H v d fp) (w : d.wf)
    (q : ∀ H', (∀ a, a ∉ fp → H' a = H a) → Q .non H') : run (pg.tb K) n d_law_spoil [v] H Q E := by
  induction n generalizing d H v fp Q E with
  | zero => omega
  | succ n ih =>
  rw [r_law_spoil]
  refine ⟨rfl, ?_⟩
  cases o with
  | num i =>
    simp [L2.start]
    exact q _ fun _ _ => rfl
  | txt z =>
    simp [L2.start]
    exact q _ fun _ _ => rfl
  | row h r na =>
    rename_i a vs ds fps
    rw [Doc.wf] at w
    rw [Doc.depth] at hn
    have hl := r.rep.length
    simp [L2.start, isi_lst (vw_lst h)]
    refine forA_lst ?_
    simp
    refine ⟨⟨vs, sqL_vw (vw_lst h)⟩, forW_by jl (fun i σ' H' => (∃ x y, σ' = [some (.ref a), x, y]) ∧ H' a = some (.lst vs) ∧ (∀ b, b ∉ fps → H' b = H b) ∧ ∃ fr, OwnL H' (vs.drop i) (ds.drop i) fr ∧ ∀ b ∈ fr, b ∈ fps) (fun i σ' H' p => vw_lst p.2.1) ⟨⟨_, _, rfl⟩, h, fun _ _ => rfl, fps, r, fun _ m => m⟩ ?_ ?_⟩
    · rintro i x σ' H' hx ⟨⟨x0, y0, rfl⟩, ha, ot, fr, of, sb⟩
      obtain ⟨di, f1, f2, hdi, oi, orest, dj, s1, s2⟩ := of.drop hx
      simp
      refine ih di (by have := depthL_mem (mem_of_get hdi); omega) H' x f1 _ _ oi (wfL_mem w.2 (mem_of_get hdi)) fun H'' k => ?_
      have naf : a ∉ f1 := fun m => na (sb a (s1 a m))
      exact ⟨by rw [k a naf]; exact ha, fun b hb => by rw [k b (fun m => hb (sb b (s1 b m)))]; exact ot b hb, f2, orest.stay fun b m => k b fun m2 => dj b m2 m, fun b m => sb b (s2 b m)⟩
    · rintro σ' H' ⟨⟨x0, y0, rfl⟩, ha, ot, _⟩
      have hz : vw (upd H' a (.lst (vs ++ [.str "zz"]))) a = some (.lst (vs ++ [.str "zz"])) := vw_upd_same (fun _ _ z => by cases z)
      simp [mtT, ha, rAppendA, isi_lst hz]
      refine ⟨by have : sizeLine = 16777216 := by decide
                 omega, q _ fun b hb => ?_⟩
      rw [upd_ne (fun (e : b = a) => hb (e ▸ List.mem_cons_self))]
      exact ot b fun m => hb (List.mem_cons_of_mem _ m)
  | tab h r na =>
    rename_i a kvs ks fps
    rw [Doc.wf] at w
    rw [Doc.depth] at hn
    have hl := r.rep.length
    simp [L2.start, isi_dK (vw_dK h)]
    refine forA_keys (d := a) (vw_dK h) (fun Hl R q => by simpa using q) fun Hl ob D' l nx rt => ?_
    refine forW_by jk (fun i σ' H' => (∃ x y, σ' = [some (.ref a), x, y]) ∧ H' a = Hl a ∧ (∀ b, b ∉ fps → H' b = Hl b) ∧ ∃ fr, OwnK H' (kvs.drop i) (ks.drop i) fr ∧ ∀ b ∈ fr, b ∈ fps) (fun i σ' H' p => by rw [p.2.1, l.at_]) ⟨⟨_, _, rfl⟩, rfl, fun _ _ => rfl, fps, r.stay fun b m => l.ne b fun (e : b = a) => na (e ▸ m), fun _ m => m⟩ ?_ ?_
    · rintro i x σ' H' hx ⟨⟨x0, y0, rfl⟩, ha, ot, fr, of, sb⟩
      rw [List.getElem?_map] at hx
      obtain ⟨p, hp, rfl⟩ := Option.map_eq_some_iff.mp hx
      obtain ⟨k, di, f1, f2, hk, hdi, oi, orest, dj, s1, s2⟩ := of.drop hp
      obtain ⟨pk, pv⟩ := p
      have hv : vw H' a = some (.dK kvs) := by unfold vw; rw [ha, l.at_]
      cases hk
      simp [kV, ix_dK hv, keyOf, valV_get (r.rep.keyNodup w.2.1) hp]
      refine ih di (by have : di.depth ≤ _ := depthK_mem (mem_of_get hdi); omega) H' pv f1 _ _ oi (wfK_mem w.2.2 (mem_of_get hdi)) fun H'' k => ?_
      have naf : a ∉ f1 := fun m => na (sb a (s1 a m))
      exact ⟨by rw [k a naf]; exact ha, fun b hb => by rw [k b (fun m => hb (sb b (s1 b m)))]; exact ot b hb, f2, orest.stay fun b m => k b fun m2 => dj b m2 m, fun b m => sb b (s2 b m)⟩
    · rintro σ' H' ⟨⟨x0, y0, rfl⟩, ha, ot, _⟩
      refine nx _ _ ha ?_
      have : RD.un H a H' a = some (.dK kvs) := by rw [un_at]; exact h
      simp [rSet, this, keyOf]
      refine ⟨by have : sizeLine = 16777216 := by decide
                 omega, q _ fun b hb => ?_⟩
      have nb : b ≠ a := fun (e : b = a) => hb (e ▸ List.mem_cons_self)
      rw [upd_ne nb, un_ne nb, ot b fun m => hb (List.mem_cons_of_mem _ m), l.ne b nb]
end K23
end
section
set_option Elab.async false
set_option maxRecDepth 100000
set_option maxHeartbeats 1000000
namespace RD
open PySem PySem.Spec PyProof.Rows L2
theorem TupAt.upd {H : Hp} {D : Addr} {xs ys : List V} {v : V} {o : HO} (h : H D = some (.lst xs)) (t : TupAt H v ys) : TupAt (upd H D o) v ys := by
  obtain ⟨a, e, ha⟩ := t
  refine ⟨a, e, ?_⟩
  rw [vw_upd_ne]
  · exact ha
  · intro e2
    subst e2
    rw [vw_lst h] at ha
    cases ha
theorem cntL_take {ds : List Doc} {i : Nat} {d : Doc} (h : ds[i]? = some d) : cntL (ds.take (i + 1)) = cntL (ds.take i) + parts d := by
  rw [take_one h]
  have : ∀ (a b : List Doc), cntL (a ++ b) = cntL a + cntL b := by
    intro a b
    induction a with
    | nil => simp [cntL]
    | cons x r ih => simp only [List.cons_append, cntL, ih]; omega
  rw [this]
  simp [cntL]
theorem cntL_mem : ∀ {ds : List Doc} {d : Doc}, d ∈ ds → parts d ≤ cntL ds
  | e :: r, d, h => by
    rw [cntL]
    rcases List.mem_cons.mp h with rfl | h
    · omega
    · have := cntL_mem h; omega
theorem cntK_mem : ∀ {ds : List (Str × Doc)} {p : Str × Doc}, p ∈ ds → parts p.2 ≤ cntK ds
  | (k, e) :: r, p, h => by
    rw [cntK]
    rcases List.mem_cons.mp h with rfl | h
    · show parts e ≤ _; omega
    · have := cntK_mem h; omega
/-- how many parts stand under a name -/
def cAt (ks : List (Str × Doc)) (s : Str) : Nat := ((lkK ks s).map parts).getD 0
theorem sum_cAt : ∀ {ks : List (Str × Doc)}, (ks.map (·.1)).Nodup → ((ks.map (·.1)).map (cAt ks)).sum = cntK ks
  | [], _ => rfl
  | (k, d) :: r, h => by
    obtain ⟨h1, h2⟩ := List.nodup_cons.mp (show (k :: r.map (·.1)).Nodup from h)
    have e : (r.map (·.1)).map (cAt ((k, d) :: r)) = (r.map (·.1)).map (cAt r) := by
      refine List.map_congr_left fun s hs => ?_
      have : k ≠ s := fun e => h1 (e ▸ hs)
      unfold cAt
      rw [lkK_neg this]
    show (cAt ((k, d) :: r) k :: (r.map (·.1)).map (cAt ((k, d) :: r))).sum = _
    rw [e, List.sum_cons, sum_cAt h2, cntK]
    unfold cAt
    rw [lkK_pos]
    rfl
theorem lkK_mem {ks : List (Str × Doc)} {s : Str} (h : s ∈ ks.map (·.1)) : ∃ d, lkK ks s = some d := by
  obtain ⟨p, hp, e⟩ := List.mem_map.mp h
  unfold lkK
  cases q : ks.find? (fun p => decide (p.1 = s)) with
  | some x => exact ⟨_, rfl⟩
  | none =>
    have := List.find?_eq_none.mp q p hp
    simp [e] at this
end RD
namespace K23
open PySem PySem.Spec PyProof.Rows L2 RD
variable {K : PySem.W.Frag}
theorem law_paths_ok (n : Nat) (d : Doc) (hn : d.depth < n) (H : Hp) (v av : V) (pre : List Stp) (Q : VK) (E : XK) (r : Rep H v d) (w : d.wf) (hc : parts d ≤ 60) (ha : PathAt H av pre) (hp : pre.length + d.depth ≤ 1000)
    (q : ∀ H' a xs, Same H H' → H a = none → H' a = some (.lst xs) → xs.length = parts d → (∀ x ∈ xs, ∃ p, PathAt H' x (pre ++ p) ∧ (sub d p).isSome = true) → Q (.ref a) H') : run (pg.tb K) n d_law_paths [v, av] H Q E := by
  induction n generalizing d H v av pre Q E with
  | zero => omega
  | succ n ih =>
  have sL : sizeLine = 16777216 := by decide
  rw [r_law_paths]
  refine ⟨rfl, ?_⟩
  simp only [L2.start]
  simp
  refine ⟨by decide, fun D hD => ?_⟩
  have s1 : Same H (upd H D (.lst [av])) := same_new hD _
  have g1 : ∀ x ∈ [av], ∃ p, PathAt (upd H D (.lst [av])) x (pre ++ p) ∧ (sub d p).isSome = true := fun x hx => by
    rw [List.mem_singleton] at hx
    subst hx
    exact ⟨[], by rw [List.append_nil]; exact ha.same s1, rfl⟩
  cases r with
  | num i =>
    simp
    exact q _ D [av] s1 hD upd_same (by simp [parts]) g1
  | txt i =>
    simp
    exact q _ D [av] s1 hD upd_same (by simp [parts]) g1
  | row h r =>
    rename_i a vs ds
    have h1 := same_vw s1 h
    rw [Doc.wf] at w
    rw [Doc.depth] at hn hp
    rw [parts] at hc
    have hl := r.length
    simp [isi_lst h1]
    refine forA_rng1 ?_
    simp [len_lst h1]
    refine ⟨by omega, forW_by jr (fun i σ' H' => (∃ x y, σ' = [some (.ref a), some av, some (.ref D), x, y]) ∧ Same H H' ∧ ∃ xs, H' D = some (.lst xs) ∧ xs.length = 1 + cntL (ds.take i) ∧ xs.length ≤ 1 + 60 * i ∧ ∀ x ∈ xs, ∃ p, PathAt H' x (pre ++ p) ∧ (sub (.row ds) p).isSome = true) (fun _ _ _ _ => trivial) ⟨⟨_, _, rfl⟩, s1, [av], upd_same, by simp [cntL], by simp, g1⟩ ?_ ?_⟩
    · rintro i x σ' H' hx ⟨⟨x0, y0, rfl⟩, s, xs, hxs, hl1, hl2, hg⟩
      obtain ⟨hi, rfl⟩ := rngV_get hx
      have hi : i < vs.length := by simpa using hi
      obtain ⟨di, hdi, ri⟩ := r.get (List.getElem?_eq_getElem hi)
      have hm := mem_of_get hdi
      simp [mtT, hxs, ix_lst (same_vw s h)]
      refine ⟨vs[i], atI_nat (List.getElem?_eq_getElem hi), by decide, fun t ht => ?_⟩
      have s2 : Same H' (upd H' t (.tup [.int i])) := same_new ht _
      obtain ⟨aa, rfl, haa⟩ := (ha.same s).same s2
      rw [s_bin_ref_add, haa]
      refine ⟨[.int i], vw_tup upd_same, by simp; omega, fun av2 H2 s3 t2 => ?_⟩
      refine ih di (by have := depthL_mem hm; omega) H2 vs[i] av2 (pre ++ [.ix i]) _ _ (ri.same (s.trans (s2.trans s3))) (wfL_mem w.2 hm) (by have := cntL_mem hm; omega) (by unfold PathAt; rw [List.map_append]; exact t2) (by have := depthL_mem hm; simp; omega) fun H3 b zs s4 hb hz hzl hzg => ?_
      have hD3 : H3 D = some (.lst xs) := s4 _ _ (s3 _ _ (s2 _ _ hxs))
      have hm2 := cntL_mem hm
      simp [rExtendA, hD3, hz]
      refine ⟨by omega, same_upd hD (s.trans (s2.trans (s3.trans s4))), xs ++ zs, upd_same, by rw [List.length_append, cntL_take hdi]; omega, by rw [List.length_append]; omega, ?_⟩
      · intro x hx
        rcases List.mem_append.mp hx with hx | hx
        · obtain ⟨p, hp, hsub⟩ := hg x hx
          exact ⟨p, TupAt.upd hD3 (PathAt.same (s2.trans (s3.trans s4)) hp), hsub⟩
        · obtain ⟨p, hp, hsub⟩ := hzg x hx
          refine ⟨.ix i :: p, TupAt.upd hD3 ?_, ?_⟩
          · have : pre ++ Stp.ix i :: p = (pre ++ [.ix i]) ++ p := by simp
            rw [this]
            exact hp
          · show ((kid (.row ds) (.ix i)).bind fun c => sub c p).isSome = true
            rw [show kid (.row ds) (.ix i) = some di from hdi]
            exact hsub
    · rintro σ' H' ⟨⟨x0, y0, rfl⟩, s, xs, hxs, hl1, hl2, hg⟩
      simp [isi_lst (same_vw s h)]
      rw [rngV_len, hl, List.take_length] at hl1
      exact q _ D xs s hD hxs (by rw [parts]; omega) hg
  | tab h r =>
    rename_i a kvs ks
    have h1 := same_vw s1 h
    rw [Doc.wf] at w
    rw [Doc.depth] at hn hp
    rw [parts] at hc
    have hl := r.length
    simp [isi_dK h1]
    refine forA_lst ?_
    simp [srt_dK h1 (r.same s1)]
    refine ⟨by omega, fun ys p0 pm _ hp0 => ?_⟩
    have s2 := s1.trans (same_new hp0 (.lst (ys.map V.str)))
    have hDp : D ≠ p0 := fun e => by subst e; rw [upd_same] at hp0; cases hp0
    refine ⟨⟨_, sqL_vw (vw_lst upd_same)⟩, forW_by jl (fun i σ' H' => (∃ x y, σ' = [some (.ref a), some av, some (.ref D), x, y]) ∧ Same H H' ∧ H' p0 = some (.lst (ys.map V.str)) ∧ ∃ xs, H' D = some (.lst xs) ∧ xs.length = 1 + ((ys.take i).map (cAt ks)).sum ∧ xs.length ≤ 1 + 60 * i ∧ ∀ x ∈ xs, ∃ p, PathAt H' x (pre ++ p) ∧ (sub (.tab ks) p).isSome = true) (fun _ _ _ z => vw_lst z.2.2.1) ⟨⟨_, _, rfl⟩, s2, upd_same, [av], by rw [upd_ne hDp, upd_same], by simp, by simp, fun x hx => ?_⟩ ?_ ?_⟩
    · obtain ⟨p, h1, h2⟩ := g1 x hx
      exact ⟨p, h1.same (same_new hp0 _), h2⟩
    · rintro i x σ' H' hx ⟨⟨x0, y0, rfl⟩, s, hp0', xs, hxs, hl1, hl2, hg⟩
      rw [List.getElem?_map] at hx
      obtain ⟨k, hk, rfl⟩ := Option.map_eq_some_iff.mp hx
      have hy := lt_of_get hk
      have hpl := pm.length_eq
      rw [List.length_map] at hpl
      obtain ⟨di, hlk⟩ := lkK_mem (pm.mem_iff.mp (mem_of_get hk))
      obtain ⟨x2, hx2, ri⟩ := r.get2 hlk
      have hm : ∃ p ∈ ks, p.2 = di := by
        have h' : (ks.find? fun p => decide (p.1 = k)).map (·.2) = some di := hlk
        obtain ⟨p, hp, e⟩ := Option.map_eq_some_iff.mp h'
        exact ⟨p, List.mem_of_find?_eq_some hp, e⟩
      obtain ⟨pm1, hm, rfl⟩ := hm
      simp [mtT, hxs, ix_dK (same_vw s h), keyOf, hx2]
      refine ⟨by decide, fun t ht => ?_⟩
      have s5 : Same H' (upd H' t (.tup [.str k])) := same_new ht _
      obtain ⟨aa, rfl, haa⟩ := (ha.same s).same s5
      rw [s_bin_ref_add, haa]
      refine ⟨[.str k], vw_tup upd_same, by simp; omega, fun av2 H2 s3 t2 => ?_⟩
      refine ih pm1.2 (by have := depthK_mem hm; omega) H2 x2 av2 (pre ++ [.nm k]) _ _ (ri.same (s.trans (s5.trans s3))) (wfK_mem w.2.2 hm) (by have := cntK_mem hm; omega) (by unfold PathAt; rw [List.map_append]; exact t2) (by have := depthK_mem hm; simp; omega) fun H3 b zs s4 hb hz hzl hzg => ?_
      have hD3 : H3 D = some (.lst xs) := s4 _ _ (s3 _ _ (s5 _ _ hxs))
      have hm2 := cntK_mem hm
      simp [rExtendA, hD3, hz]
      refine ⟨by omega, same_upd hD (s.trans (s5.trans (s3.trans s4))), by rw [upd_ne hDp.symm]; exact s4 _ _ (s3 _ _ (s5 _ _ hp0')), xs ++ zs, upd_same, ?_, by rw [List.length_append]; omega, ?_⟩
      · rw [← List.map_take, take_one hk, List.map_append, List.sum_append, List.length_append]
        have : cAt ks k = parts pm1.2 := by unfold cAt; rw [hlk]; rfl
        rw [show ([k].map (cAt ks)).sum = parts pm1.2 by simp [this]]
        omega
      · intro x hx
        rcases List.mem_append.mp hx with hx | hx
        · obtain ⟨p, hp, hsub⟩ := hg x hx
          exact ⟨p, TupAt.upd hD3 (PathAt.same (s5.trans (s3.trans s4)) hp), hsub⟩
        · obtain ⟨p, hp, hsub⟩ := hzg x hx
          refine ⟨.nm k :: p, TupAt.upd hD3 ?_, ?_⟩
          · have : pre ++ Stp.nm k :: p = (pre ++ [.nm k]) ++ p := by simp
            rw [this]
            exact hp
          · show ((kid (.tab ks) (.nm k)).bind fun c => sub c p).isSome = true
            rw [show kid (.tab ks) (.nm k) = some pm1.2 from hlk]
            exact hsub
    · rintro σ' H' ⟨⟨x0, y0, rfl⟩, s, _, xs, hxs, hl1, hl2, hg⟩
      simp
      rw [List.length_map, List.take_length] at hl1
      have e := (pm.map (cAt ks)).sum_nat
      rw [sum_cAt w.2.1] at e
      exact q _ D xs s hD hxs (by rw [parts]; omega) hg
end K23
end
section
set_option Elab.async false
set_option maxRecDepth 100000
set_option maxHeartbeats 1000000
namespace RD
open PySem PySem.Spec PyProof.Rows L2
/-- what isinstance asks of an exception class, as a question -/
def excB (K : PySem.W.Frag) (D : Addr) : Bool :=
  decide (PySem.W.findIn K (.ref D) "__getattribute__" = some (some (.builtin "BaseException.__getattribute__"))) && (decide (PySem.W.findIn K (.ref D) "__getattr__" = some none) && (decide (PySem.W.subIn K (.ref D) (.type "BaseException") = some true) && (PySem.W.hasDictIn K D &&
  (decide (PySem.W.findIn K (.ref D) "__class__" = some (some (.builtin "object.__class__"))) && (decide (PySem.W.specialIn K (.builtin "object.__class__") "__get__" = some (some (.builtin "getset_descriptor.__get__"))) && (decide (PySem.W.takesIn K (.builtin "object.__class__") = some true) && decide (PySem.W.mroIn K D (.type "object") = some true)))))))
theorem excB_ok {K : PySem.W.Frag} {D : Addr} (h : excB K D = true) : ExcC K D := by
  unfold excB at h
  simp only [Bool.and_eq_true, decide_eq_true_eq] at h
  obtain ⟨h1, h2, h3, h4, h5, h6, h7, h8⟩ := h
  exact ⟨h1, h2, h3, h4, h5, h6, h7, h8⟩
def oneB (K : PySem.W.Frag) (x y : Str) (b : Bool) : Bool := decide (PySem.W.kitOne K (.ref (He.ga K x)) (.ref (He.ga K y)) = some b)
@[simp] theorem s_intb {k : Bool} {H : Hp} {Q : VK} : rInt [.bl k] H Q = Q (.int (if k then 1 else 0)) H := by
  show ((∃ i, [V.bl k] = [.int i] ∧ Q (.int i) H) ∨ ∃ k', [V.bl k] = [.bl k'] ∧ Q (.int (if k' then 1 else 0)) H) = _
  simp
theorem s_hot {K : PySem.W.Frag} {a D : Addr} {c : V} {cv : Value} {b : Bool} {H : Hp} {Q : VK} (hE : ExcC K D) (hc : clsOf c = some cv) (hk : PySem.W.kitOne K (.ref D) cv = some b) (q : Q (.bl b) H) : rIsH K (some (a, .ref D, none)) [.ref a, c] H Q :=
  .inr ⟨c, cv, D, b, rfl, rfl, rfl, hE, hc, hk, q⟩
end RD
namespace K23
open PySem PySem.Spec PyProof.Rows L2 RD
/-- what the head must say more -/
def ex (K : PySem.W.Frag) : Bool :=
  excB K (He.ga K "NoPart") && (oneB K "NoPart" "NoRow" false && (oneB K "NoPart" "NoFit" false && (oneB K "NoPart" "NoPatch" false && (oneB K "NoPart" "Clash" false && (oneB K "NoPart" "NoText" false && (oneB K "NoPart" "NoDeed" false && (oneB K "NoPart" "NoPart" true &&
  (decide (PySem.W.kitOne K (.ref (He.ga K "NoPart")) (.type "ValueError") = some true) && decide (PySem.W.exmOne K (.ref (He.ga K "NoPart")) (.ref (He.ga K "BoughError")) = some true)))))))))
structure NF (K : PySem.W.Frag) : Prop where
  c : ExcC K (He.ga K "NoPart")
  k1 : PySem.W.kitOne K (.ref (He.ga K "NoPart")) (.ref (He.ga K "NoRow")) = some false
  k2 : PySem.W.kitOne K (.ref (He.ga K "NoPart")) (.ref (He.ga K "NoFit")) = some false
  k3 : PySem.W.kitOne K (.ref (He.ga K "NoPart")) (.ref (He.ga K "NoPatch")) = some false
  k4 : PySem.W.kitOne K (.ref (He.ga K "NoPart")) (.ref (He.ga K "Clash")) = some false
  k5 : PySem.W.kitOne K (.ref (He.ga K "NoPart")) (.ref (He.ga K "NoText")) = some false
  k6 : PySem.W.kitOne K (.ref (He.ga K "NoPart")) (.ref (He.ga K "NoDeed")) = some false
  k7 : PySem.W.kitOne K (.ref (He.ga K "NoPart")) (.ref (He.ga K "NoPart")) = some true
  k8 : PySem.W.kitOne K (.ref (He.ga K "NoPart")) (.type "ValueError") = some true
  k9 : PySem.W.exmOne K (.ref (He.ga K "NoPart")) (.ref (He.ga K "BoughError")) = some true
theorem nf_of {K : PySem.W.Frag} (h : ex K = true) : NF K := by
  unfold ex oneB at h
  simp only [Bool.and_eq_true, decide_eq_true_eq] at h
  obtain ⟨h1, h2, h3, h4, h5, h6, h7, h8, h9, h10⟩ := h
  exact ⟨excB_ok h1, h2, h3, h4, h5, h6, h7, h8, h9, h10⟩
variable {K : PySem.W.Frag}
theorem r_hot_no_part (K : PySem.W.Frag) (n : Nat) (h : Addr × Value × Option Addr) (vs : List V) (H : Hp) (Q : VK) (E : XK) : hotSp K (n + 1) h d_law_no_part vs H Q E = (vs.length = 1 ∧ (tSeq (tAsg (tLst (tCons (tTB (rIsH K (some h)) (tCons (tVar 0) (tCons (tC (.ref (He.ga K "NoRow"))) tNil))) (tCons (tTB (rIsH K (some h)) (tCons (tVar 0) (tCons (tC (.ref (He.ga K "NoFit"))) tNil))) (tCons (tTB (rIsH K (some h)) (tCons (tVar 0) (tCons (tC (.ref (He.ga K "NoPatch"))) tNil))) (tCons (tTB (rIsH K (some h)) (tCons (tVar 0) (tCons (tC (.ref (He.ga K "Clash"))) tNil))) tNil))))) (gName 1)) (tSeq (tAsg (tOp (rBin .Add) (tVar 1) (tLst (tCons (tTB (rIsH K (some h)) (tCons (tVar 0) (tCons (tC (.ref (He.ga K "NoText"))) tNil))) (tCons (tTB (rIsH K (some h)) (tCons (tVar 0) (tCons (tC (.ref (He.ga K "NoDeed"))) tNil))) tNil)))) (gName 1)) (tRet (tAndV (tTB (rIsH K (some h)) (tCons (tVar 0) (tCons (tC (.ref (He.ga K "NoPart"))) tNil))) (tAndV (tTB (rIsH K (some h)) (tCons (tVar 0) (tCons (tC (.ty "ValueError")) tNil))) (tOp (rCmp K .NotIn) (tC (.bl true)) (tVar 1))))))) { nx := fun _ H' => Q .non H', rt := Q } (start ["e", "some"] vs) H) := by
  kernel_rfl
theorem no_part_ok (F : NF K) (n : Nat) (a : Addr) (H : Hp) (Q : VK) (E : XK) (q : ∀ H', Same H H' → Q (.bl true) H') : hotSp K (n + 1) (a, .ref (He.ga K "NoPart"), none) d_law_no_part [.ref a] H Q E := by
  rw [r_hot_no_part]
  refine ⟨rfl, ?_⟩
  simp only [L2.start]
  simp
  refine s_hot F.c rfl F.k1 (s_hot F.c rfl F.k2 (s_hot F.c rfl F.k3 (s_hot F.c rfl F.k4 ⟨by decide, fun p hp => ?_⟩)))
  refine s_hot F.c rfl F.k5 (s_hot F.c rfl F.k6 ⟨by decide, fun p2 hp2 => ?_⟩)
  have s1 := same_new hp (.lst [.bl false, .bl false, .bl false, .bl false])
  have s2 := s1.trans (same_new hp2 (.lst [.bl false, .bl false]))
  have hne : p ≠ p2 := fun e => by subst e; rw [upd_same] at hp2; cases hp2
  have hv : vw (upd (upd H p (.lst [.bl false, .bl false, .bl false, .bl false])) p2 (.lst [.bl false, .bl false])) p = some (.lst [.bl false, .bl false, .bl false, .bl false]) := vw_lst (by rw [upd_ne hne, upd_same])
  rw [s_bin_ref_add, hv]
  refine ⟨[.bl false, .bl false], by rw [upd_ne hne, upd_same], upd_same, by decide, fun p3 hp3 => ?_⟩
  refine s_hot F.c rfl F.k7 ?_
  simp
  refine s_hot F.c rfl F.k8 ?_
  simp
  have hz : inA (upd (upd (upd H p (.lst [.bl false, .bl false, .bl false, .bl false])) p2 (.lst [.bl false, .bl false])) p3 (.lst [.bl false, .bl false, .bl false, .bl false, .bl false, .bl false])) (.bl true) (.ref p3) = some false := by
    have : vw (upd (upd (upd H p (.lst [.bl false, .bl false, .bl false, .bl false])) p2 (.lst [.bl false, .bl false])) p3 (.lst [.bl false, .bl false, .bl false, .bl false, .bl false, .bl false])) p3 = some (.lst [.bl false, .bl false, .bl false, .bl false, .bl false, .bl false]) := vw_lst upd_same
    simp only [inA, this]
    rfl
  exact .inl ⟨hz, q _ (s2.trans (same_new hp3 _))⟩
theorem law_changed_ok (n : Nat) (H : Hp) (v pv vv : V) (d e : Doc) (p : List Stp) (Q : VK) (E : XK) (hp : PathAt H pv p) (r : Rep H v d) (re : Rep H vv e) (w : d.wf) (we : e.wf) (hd : d.depth < n + 1) (he : e.depth < n + 1)
    (q : ∀ v' t H' fp, (sub d p).isSome = true → Same H H' → TupAt H' v' [t] → Own H' t (put d p e) fp → Q v' H') (er : sub d p = none → Q .non H) : run (pg.tb K) (n + 2) d_law_changed [v, pv, vv] H Q E := by
  rw [r_law_changed]
  refine ⟨rfl, ?_⟩
  simp only [L2.start]
  simp
  refine law_stands_ok n H v pv d p _ _ hp r ?_
  obtain ⟨b, rfl, hb⟩ := hp
  cases hs : sub d p with
  | none => simpa using er hs
  | some c =>
    simp
    intro t0 ht0
    have s0 := same_new ht0 (.tup [])
    have e0 := EqA.flatT (K := K) (H := upd H t0 (.tup [])) (same_vw s0 hb) (vw_tup upd_same) (stps_flat p) rfl
    refine eqI e0 ?_
    rw [allEq_nil]
    rcases path_cases p with rfl | ⟨qp, s, rfl⟩
    · simp
      refine law_copy_ok (n + 1) e he _ vv _ _ (re.same s0) we fun y H1 fp s1 o1 fr => ⟨by decide, fun t ht => ?_⟩
      exact q (.ref t) y _ fp (by rw [hs]; rfl) (s0.trans (s1.trans (same_new ht _))) tupAt_new (o1.same (same_new ht _))
    · simp
      refine law_copy_ok (n + 1) d hd _ v _ _ (r.same s0) w fun told H1 fp s1 o1 fr1 => ?_
      have s01 := s0.trans s1
      have hb1 := same_vw s01 hb
      simp [rSl, hb1]
      intro pv2 H2 s2 t2
      have z := @cut_last qp s
      simp only [List.map_append, List.map_cons, List.map_nil] at z
      rw [z] at t2
      have hsub : (sub d qp).bind (fun c => kid c s) = some c := by rw [← sub_snoc]; exact hs
      cases hc : sub d qp with
      | none => rw [hc] at hsub; cases hsub
      | some c1 =>
        rw [hc] at hsub
        obtain ⟨x, hx, rx⟩ := (o1.same s2).rep.walk hc
        refine law_at_ok n H2 told pv2 x qp _ _ t2 hx ?_
        refine law_copy_ok (n + 1) e he H2 vv _ _ (re.same (s01.trans s2)) we fun y H3 fy s3 oy fr3 => ?_
        have hb3 : vw H3 b = some (.tup ((qp ++ [s]).map Stp.v)) := same_vw s3 (same_vw s2 hb1)
        refine ⟨s.v, ?_, ?_⟩
        · rw [ix_tup hb3]
          exact atI_path
        refine set_at (o1.same s2) w hx hc (by rw [show kid c1 s = some c from hsub]; rfl) s3 oy fr3 fun a u fp' ha o' h' => ⟨by decide, fun t ht => ?_⟩
        refine q (.ref t) told _ fp' (by rw [hs]; rfl) (Same.trans (fun z o ez => ?_) (same_new ht _)) tupAt_new (o'.same (same_new ht _))
        have : z ≠ a := fun ea => by
          subst ea
          have := fr1 z ha
          rw [s0 _ _ ez] at this
          cases this
        rw [upd_ne this]
        exact s3 _ _ (s2 _ _ (s01 _ _ ez))
theorem law_asked_ok (F : NF K) (n : Nat) (H : Hp) (v pv vv : V) (d e : Doc) (p : List Stp) (Q : VK) (E : XK) (hp : PathAt H pv p) (r : Rep H v d) (re : Rep H vv e) (w : d.wf) (we : e.wf) (hd : d.depth < n + 5) (he : e.depth < n + 5)
    (q : ∀ v' t H' fp, (sub d p).isSome = true → Same H H' → TupAt H' v' [t] → Own H' t (put d p e) fp → (∀ a ∈ fp, H a = none) → Q v' H') (er : ∀ H', sub d p = none → Same H H' → Q .non H') : run (pg.tb K) (n + 7) d_law_asked [v, pv, vv] H Q E := by
  rw [r_law_asked]
  refine ⟨rfl, ?_⟩
  simp only [L2.start]
  simp
  refine changed_at_ok n H v pv vv d e p _ _ hp r re w we hd he (fun v' H' fp hs s o fr => ⟨by decide, fun t ht => ?_⟩) fun H' hs s => ?_
  · exact q (.ref t) v' _ fp hs (s.trans (same_new ht _)) tupAt_new (o.same (same_new ht _)) fr
  · refine ⟨true, F.k9, fun _ a ha => ?_, fun z => by cases z⟩
    simp
    refine ⟨by decide, fun p hp => ?_⟩
    refine no_part_ok F (n + 5) a _ _ _ fun H2 s2 => ?_
    have hv : vw H2 p = some (.lst [.str "odd", .non]) := vw_lst (s2 _ _ upd_same)
    simp [ix_lst hv]
    refine ⟨.non, rfl, er _ hs (s.trans ((same_new hp _).trans s2))⟩
end K23
end
section
set_option Elab.async false
set_option maxRecDepth 100000
set_option maxHeartbeats 1000000
namespace RD
open PySem PySem.Spec PyProof.Rows L2
theorem wfL_of {ds : List Doc} (h : ∀ d ∈ ds, d.wf) : wfL ds := by
  induction ds with
  | nil => trivial
  | cons d r ih => exact ⟨h d List.mem_cons_self, ih fun x hx => h x (List.mem_cons_of_mem _ hx)⟩
theorem wfK_of {ds : List (Str × Doc)} (h : ∀ p ∈ ds, p.2.wf) : wfK ds := by
  induction ds with
  | nil => trivial
  | cons d r ih =>
    obtain ⟨k, d⟩ := d
    exact ⟨h (k, d) List.mem_cons_self, ih fun x hx => h x (List.mem_cons_of_mem _ hx)⟩
theorem depthL_le {ds : List Doc} {n : Nat} (h : ∀ d ∈ ds, d.depth ≤ n) : depthL ds ≤ n := by
  induction ds with
  | nil => exact Nat.zero_le _
  | cons d r ih =>
    rw [depthL]
    exact Nat.max_le.mpr ⟨h d List.mem_cons_self, ih fun x hx => h x (List.mem_cons_of_mem _ hx)⟩
theorem depthK_le {ds : List (Str × Doc)} {n : Nat} (h : ∀ p ∈ ds, p.2.depth ≤ n) : depthK ds ≤ n := by
  induction ds with
  | nil => exact Nat.zero_le _
  | cons d r ih =>
    obtain ⟨k, d⟩ := d
    rw [depthK]
    exact Nat.max_le.mpr ⟨h (k, d) List.mem_cons_self, ih fun x hx => h x (List.mem_cons_of_mem _ hx)⟩
theorem mem_putD : ∀ {ks : List (Str × Doc)} {s : Str} {e : Doc} {p : Str × Doc}, p ∈ putD ks s e → p ∈ ks ∨ p.2 = e
  | (k, d) :: r, s, e, p, h => by
    rw [putD] at h
    split at h
    · rcases List.mem_cons.mp h with rfl | h
      · exact .inr rfl
      · exact .inl (List.mem_cons_of_mem _ h)
    · rcases List.mem_cons.mp h with rfl | h
      · exact .inl List.mem_cons_self
      · exact (mem_putD h).imp (List.mem_cons_of_mem _) id
theorem putD_len : ∀ {ks : List (Str × Doc)} {s : Str} {e : Doc}, (putD ks s e).length = ks.length
  | [], _, _ => rfl
  | (k, d) :: r, s, e => by
    rw [putD]
    split
    · rfl
    · rw [List.length_cons, putD_len, List.length_cons]
theorem mem_set {α : Type} {l : List α} {n : Nat} {e x : α} (h : x ∈ l.set n e) : x ∈ l ∨ x = e := by
  rcases List.mem_or_eq_of_mem_set h with h | h
  · exact .inl h
  · exact .inr h
theorem putKid_wf {d e : Doc} {s : Stp} (w : d.wf) (we : e.wf) : (putKid d s e).wf := by
  cases d with
  | num i => cases s <;> exact w
  | txt i => cases s <;> exact w
  | row ds =>
    cases s with
    | nm z => exact w
    | ix n =>
      show Doc.wf (.row (ds.set n e))
      rw [Doc.wf] at w ⊢
      refine ⟨by rw [List.length_set]; exact w.1, wfL_of fun x hx => ?_⟩
      rcases mem_set hx with h | rfl
      · exact wfL_mem w.2 h
      · exact we
  | tab ks =>
    cases s with
    | ix z => exact w
    | nm z =>
      show Doc.wf (.tab (putD ks z e))
      rw [Doc.wf] at w ⊢
      refine ⟨by rw [putD_len]; exact w.1, by rw [putD_names]; exact w.2.1, wfK_of fun x hx => ?_⟩
      rcases mem_putD hx with h | h
      · exact wfK_mem w.2.2 h
      · rw [h]; exact we
theorem put_wf : ∀ {p : List Stp} {d e : Doc}, d.wf → e.wf → (put d p e).wf
  | [], d, e, w, we => we
  | s :: p, d, e, w, we => by
    rw [put]
    cases hk : kid d s with
    | none => exact w
    | some c => exact putKid_wf w (put_wf (kid_wf w hk) we)
theorem putKid_depth {d e : Doc} {s : Stp} {n : Nat} (h : d.depth ≤ n) (he : e.depth + 1 ≤ n) : (putKid d s e).depth ≤ n := by
  cases d with
  | num i => cases s <;> exact h
  | txt i => cases s <;> exact h
  | row ds =>
    cases s with
    | nm z => exact h
    | ix k =>
      show (Doc.row (ds.set k e)).depth ≤ n
      rw [Doc.depth] at h ⊢
      have : depthL (ds.set k e) ≤ n - 1 := depthL_le fun x hx => by
        rcases mem_set hx with hm | rfl
        · have := depthL_mem hm; omega
        · omega
      omega
  | tab ks =>
    cases s with
    | ix z => exact h
    | nm z =>
      show (Doc.tab (putD ks z e)).depth ≤ n
      rw [Doc.depth] at h ⊢
      have : depthK (putD ks z e) ≤ n - 1 := depthK_le fun x hx => by
        rcases mem_putD hx with hm | hm
        · have := depthK_mem hm; omega
        · rw [hm]; omega
      omega
theorem put_depth : ∀ {p : List Stp} {d e : Doc}, (put d p e).depth ≤ d.depth + e.depth
  | [], d, e => Nat.le_add_left _ _
  | s :: p, d, e => by
    rw [put]
    cases hk : kid d s with
    | none => exact Nat.le_add_right _ _
    | some c =>
      have h1 := put_depth (p := p) (d := c) (e := e)
      have h2 := kid_depth hk
      exact putKid_depth (Nat.le_add_right _ _) (by omega)
end RD
namespace K23
open PySem PySem.Spec PyProof.Rows L2 RD
variable {K : PySem.W.Frag}
theorem law_right_ok (F : NF K) (n : Nat) (H : Hp) (v pv vv : V) (d e : Doc) (p : List Stp) (Q : VK) (E : XK) (hp : PathAt H pv p) (r : Rep H v d) (re : Rep H vv e) (w : d.wf) (we : e.wf) (hd : d.depth + e.depth < n + 1)
    (q : ∀ H', Same H H' → Q (.bl true) H') : run (pg.tb K) (n + 8) d_law_right [v, pv, vv] H Q E := by
  have wp : (put d p e).wf := put_wf w we
  have dp : (put d p e).depth ≤ d.depth + e.depth := put_depth
  rw [r_law_right]
  refine ⟨rfl, ?_⟩
  simp only [L2.start]
  simp
  -- behind the two copies
  have rest : ∀ (due : V) (H1 : Hp), Same H H1 → ((sub d p = none ∧ due = .non) ∨ ((sub d p).isSome = true ∧ ∃ t, TupAt H1 due [t] ∧ Rep H1 t (put d p e))) →
      run (pg.tb K) (n + 7) d_law_copy [v] H1 (fun x H1 => run (pg.tb K) (n + 7) d_law_copy [vv] H1 (fun x_1 H1 => 2 ≤ sizeLine ∧ ∀ (p : Addr), H1 p = none →
        forA (tFor (iRng1 (tCons (tC (.int 2)) tNil)) (gName 5) (tSeq (tAsg (tCallS (run (pg.tb K) (n + 7) d_law_asked) (WE (fun cls dd _ H' => E cls dd H')) (tCons (tVar 0) (tCons (tVar 1) (tCons (tVar 2) tNil)))) (gName 6)) (tSeq (tIfS (tOr (tAnd (tTest (tOp (rCmp K .Is) (tVar 3) (tC .non))) (tTest (tOp (rCmp K .IsNot) (tVar 6) (tC .non)))) (tAnd (tTest (tOp (rCmp K .IsNot) (tVar 3) (tC .non))) (tNot (RD.tTru (tTB (rIsH K none) (tCons (tVar 6) (tCons (tC (.ty "tuple")) tNil))))))) (tRet (tC (.bl false))) tNext) (tSeq (tIfS (tTest (tOp (rCmp K .IsNot) (tVar 3) (tC .non))) (tSeq (tIfS (tNot (RD.tTru (tCallS (run (pg.tb K) (n + 7) d_law_alike) (WE (fun cls dd _ H' => E cls dd H')) (tCons (tOp rIx (tVar 3) (tC (.int 0))) (tCons (tOp rIx (tVar 6) (tC (.int 0))) tNil))))) (tRet (tC (.bl false))) tNext) (tDrop (tCallS (run (pg.tb K) (n + 7) d_law_spoil) (WE (fun cls dd _ H' => E cls dd H')) (tCons (tOp rIx (tVar 6) (tC (.int 0))) tNil)))) tNext) (tIfS (tOr (tNot (RD.tTru (tCallS (run (pg.tb K) (n + 7) d_law_alike) (WE (fun cls dd _ H' => E cls dd H')) (tCons (tOp rIx (tVar 4) (tC (.int 0))) (tCons (tVar 0) tNil))))) (tNot (RD.tTru (tCallS (run (pg.tb K) (n + 7) d_law_alike) (WE (fun cls dd _ H' => E cls dd H')) (tCons (tOp rIx (tVar 4) (tC (.int 1))) (tCons (tVar 2) tNil)))))) (tRet (tC (.bl false))) tNext))))) { nx := fun σ' H' => Q (.bl true) H', rt := Q } [some v, some pv, some vv, some due, some (.ref p), none, none] (upd H1 p (.lst [x, x_1]))) fun cls d H => E cls d H) fun cls d H => E cls d H := by
    intro due H1 s1 hdue
    refine law_copy_ok (n + 7) d (by omega) H1 v _ _ (r.same s1) w fun c1 H2 f1 s2 o1 _ => ?_
    refine law_copy_ok (n + 7) e (by omega) H2 vv _ _ (re.same (s1.trans s2)) we fun c2 H3 f2 s3 o2 _ => ⟨by decide, fun kp hkp => ?_⟩
    have s4 := same_new hkp (.lst [c1, c2])
    have s14 := s1.trans (s2.trans (s3.trans s4))
    refine forA_rng1 ?_
    simp
    have h4 : (upd H3 kp (.lst [c1, c2])) kp = some (.lst [c1, c2]) := upd_same
    have r1 : Rep (upd H3 kp (.lst [c1, c2])) c1 d := o1.rep.same (s3.trans s4)
    have r2 : Rep (upd H3 kp (.lst [c1, c2])) c2 e := o2.rep.same s4
    have hdue4 : (sub d p = none ∧ due = .non) ∨ ((sub d p).isSome = true ∧ ∃ t, TupAt (upd H3 kp (.lst [c1, c2])) due [t] ∧ Rep (upd H3 kp (.lst [c1, c2])) t (put d p e)) := by
      rcases hdue with h | ⟨h, t, h1, h2⟩
      · exact .inl h
      · exact .inr ⟨h, t, h1.same (s2.trans (s3.trans s4)), h2.same (s2.trans (s3.trans s4))⟩
    have rv := r.same s14
    have rvv := re.same s14
    have hp4 := PathAt.same s14 hp
    generalize upd H3 kp (.lst [c1, c2]) = H4 at *
    refine forW_by jr (fun i σ' H' => (∃ x y, σ' = [some v, some pv, some vv, some due, some (.ref kp), x, y]) ∧ Same H4 H') (fun _ _ _ _ => trivial) ⟨⟨_, _, rfl⟩, Same.refl _⟩ ?_ ?_
    · rintro i x σ' H' hx ⟨⟨x0, y0, rfl⟩, s⟩
      obtain ⟨_, rfl⟩ := rngV_get hx
      simp
      have fin : ∀ H5, Same H4 H5 → ∃ v_1, ixV H5 (V.ref kp) (V.int 0) = some v_1 ∧ run (pg.tb K) (n + 7) d_law_alike [v_1, v] H5 (fun x H1 => ∃ k, truA H1 x = some k ∧ if k = false then Q (V.bl false) H1 else ∃ v_2, ixV H1 (V.ref kp) (V.int 1) = some v_2 ∧ run (pg.tb K) (n + 7) d_law_alike [v_2, vv] H1 (fun x H1 => ∃ k, truA H1 x = some k ∧ if k = false then Q (V.bl false) H1 else Same H4 H1) fun cls d H => E cls d H) fun cls d H => E cls d H := by
        intro H5 s5
        refine ⟨c1, by rw [ix_lst (vw_lst (s5 _ _ h4))]; rfl, ?_⟩
        refine law_alike_ok (n + 7) d (by omega) H5 c1 v _ _ (r1.same s5) (rv.same s5) w fun H6 s6 => ?_
        have s56 := s5.trans s6
        simp
        refine ⟨c2, by rw [ix_lst (vw_lst (s56 _ _ h4))]; rfl, ?_⟩
        refine law_alike_ok (n + 7) e (by omega) H6 c2 vv _ _ (r2.same s56) (rvv.same s56) we fun H7 s7 => ?_
        simp
        exact s56.trans s7
      refine law_asked_ok F n H' v pv vv d e p _ _ (PathAt.same s hp4) (rv.same s) (rvv.same s) w we (by omega) (by omega) (fun v' t H5 fp hs s5 tt o fr => ?_) fun H5 hs s5 => ?_
      · rcases hdue4 with ⟨h, _⟩ | ⟨_, t1, ht1, rt1⟩
        · rw [h] at hs; cases hs
        obtain ⟨b, rfl, hb⟩ := tt
        have s45 := s.trans s5
        obtain ⟨b1, rfl, hb1⟩ := ht1
        have hb1' := same_vw s45 hb1
        simp [isi_tup hb, ix_tup hb, ix_tup hb1']
        refine ⟨t1, rfl, t, rfl, ?_⟩
        refine law_alike_ok (n + 7) (put d p e) (by omega) H5 t1 t _ _ (rt1.same s45) o.rep wp fun H6 s6 => ?_
        simp [ix_tup (same_vw s6 hb)]
        refine ⟨t, rfl, ?_⟩
        refine law_spoil_ok (n + 7) (put d p e) (by omega) H6 t fp _ _ (o.same s6) wp fun H7 k7 => ?_
        have s47 : Same H4 H7 := fun z u ez => by
          have hz : z ∉ fp := fun m => by
            have := fr z m
            rw [s _ _ ez] at this
            cases this
          rw [k7 z hz]
          exact s6 _ _ (s45 _ _ ez)
        simpa using fin H7 s47
      · rcases hdue4 with ⟨_, rfl⟩ | ⟨h, _⟩
        · simp
          simpa using fin H5 (s.trans s5)
        · rw [hs] at h; cases h
    · rintro σ' H' ⟨_, s⟩
      exact q H' (s14.trans s)
  refine law_changed_ok (n + 5) H v pv vv d e p _ _ hp r re w we (by omega) (by omega) (fun v' t H1 fp hs s tt o => rest v' H1 s (.inr ⟨hs, t, tt, o.rep⟩)) fun hs => rest .non H (Same.refl H) (.inl ⟨hs, rfl⟩)
end K23
end
section
set_option Elab.async false
set_option maxRecDepth 100000
set_option maxHeartbeats 1000000
set_option exponentiation.threshold 500
namespace RD
open PySem PySem.Spec PyProof.Rows L2
theorem join_len {ys : List Str} : (Txt.join (Str.ofString "") ys).length = (ys.map (·.length)).sum := by
  show (Builtin.Str.glued (Str.ofString "") ys).length = _
  rw [StrLaws.glued_eq_join]
  cases ys with
  | nil => rfl
  | cons a r =>
    have z : (Str.ofString "").length = 0 := by decide
    rw [len_join_cons, z]
    simp
theorem natAbs_lt {i : Int} {n : Nat} (h : 0 ≤ i) (h2 : i < (2 : Int) ^ n) : i.natAbs < 2 ^ n := by
  have : ((i.natAbs : Nat) : Int) < ((2 ^ n : Nat) : Int) := by
    rw [Int.natAbs_of_nonneg h]
    push_cast
    exact h2
  exact Int.ofNat_lt.mp this
theorem mulP {i j : Int} (h : 0 ≤ i) (h2 : i < 2 ^ 400) (h3 : 0 ≤ j) (h4 : j < 2 ^ 400) : CMulW i j := wide_mul (a := 400) (b := 400) (natAbs_lt h h2) (natAbs_lt h3 h4) (by decide) (by decide) (by decide)
theorem divP {i j : Int} (h : 0 < j) (h2 : j < 2 ^ 400) : CDivW i j := wide_div (b := 400) h (natAbs_lt (Int.le_of_lt h) h2) (by decide) (by decide)
end RD
namespace K23
open PySem PySem.Spec PyProof.Rows L2 RD
variable {K : PySem.W.Frag}
theorem pow10 (k : Int) (h : 0 ≤ k) (h2 : k ≤ 1000) : CPow 10 k := ⟨h, by omega, by decide⟩
theorem law_cell_ok (n : Nat) (H : Hp) (sa : Addr) (ns : List Int) (k : Int) (Q : VK) (E : XK) (hs : vw H sa = some (.lst (ns.map V.int))) (hk : 0 ≤ k) (hk2 : k ≤ 1000) (q : ∀ c : Int, 0 ≤ c → c < 2 ^ 300 → Q (.int c) H) : run (pg.tb K) (n + 1) d_law_cell [.ref sa, .int k] H Q E := by
  rw [r_law_cell]
  refine ⟨rfl, ?_⟩
  simp only [L2.start]
  simp [len_lst hs]
  by_cases h : k < ns.length
  · have h' : ¬ (ns.length : Int) ≤ k := by omega
    simp only [h, h', true_and, false_and, or_false, false_or]
    obtain ⟨j, rfl⟩ := Int.eq_ofNat_of_zero_le hk
    have hj : j < ns.length := by omega
    rw [ix_lst hs]
    refine ⟨.int ns[j], atI_nat (by rw [List.getElem?_map, List.getElem?_eq_getElem hj]; rfl), pow10 60 (by decide) (by decide), mulP (by decide) (by decide) (by decide) (by decide), ?_⟩
    simp
    exact q _ (Int.emod_nonneg _ (by decide)) (Int.lt_trans (Int.emod_lt_of_pos _ (by decide)) (by decide))
  · have h' : (ns.length : Int) ≤ k := by omega
    simp only [h, h', true_and, false_and, or_false, false_or]
    exact ⟨mulP (by decide) (by decide) hk (Int.lt_of_le_of_lt hk2 (by decide)), q _ (by omega) (Int.lt_of_le_of_lt (b := 5001) (by omega) (by decide))⟩
def mix2 : TS := (tSeq (tAsg (tOp (rBin .Mod) (tOp (rBin .Mult) (tOp (rBin .Add) (tVar 0) (tC (.int 3))) (tC (.int 1181783497276652981))) (tC (.int 2305843009213693951))) (gName 2)) (tSeq (tAsg (tOp (rBin .Mod) (tOp (rBin .Add) (tVar 2) (tOp (rBin .Mult) (tOp (rBin .Add) (tVar 1) (tC (.int 1))) (tC (.int 614889782588491411)))) (tC (.int 2305843009213693951))) (gName 2)) (tSeq (tAsg (tOp (rBin .Mod) (tOp (rBin .Mult) (tVar 2) (tVar 2)) (tC (.int 999999999999999989))) (gName 2)) (tSeq (tAsg (tOp (rBin .Mod) (tOp (rBin .Mult) (tOp (rBin .Add) (tVar 2) (tC (.int 1))) (tOp (rBin .Add) (tOp (rBin .FloorDiv) (tVar 2) (tC (.int 1000003))) (tC (.int 7)))) (tC (.int 2305843009213693951))) (gName 2)) (tRet (tOp (rBin .FloorDiv) (tVar 2) (tC (.int 7919))))))))
theorem mix2_ok (D : Ends) (H : Hp) (c k : Int) (x y : Option V) (hc : 0 ≤ c) (hc2 : c < 2 ^ 310) (hk : 0 ≤ k) (hk2 : k ≤ 1000) (q : ∀ r : Int, 0 ≤ r → r < 2 ^ 61 → D.rt (.int r) H) : mix2 D [some (.int c), some (.int k), x, y] H := by
  unfold mix2
  have z1 : (2 : Int) ^ 310 < 2 ^ 400 - 10 := by decide
  have z2 : (2305843009213693951 : Int) < 2 ^ 400 - 10 := by decide
  have z3 : (2305843009213693951 : Int) < 2 ^ 61 := by decide
  have z4 : (999999999999999989 : Int) < 2 ^ 400 - 10 := by decide
  have z5 : (1001 : Int) < 2 ^ 400 - 10 := by decide
  generalize (2 : Int) ^ 61 = e61 at *
  simp [-Int.emod_add_emod, -Int.add_emod_emod]
  have a1 : 0 ≤ ((c + 3) * 1181783497276652981 % 2305843009213693951 + (k + 1) * 614889782588491411) % 2305843009213693951 := Int.emod_nonneg _ (by decide)
  have a2 : ((c + 3) * 1181783497276652981 % 2305843009213693951 + (k + 1) * 614889782588491411) % 2305843009213693951 < 2305843009213693951 := Int.emod_lt_of_pos _ (by decide)
  refine ⟨mulP (by omega) (by omega) (by decide) (by decide), mulP (by omega) (by omega) (by decide) (by decide), ?_⟩
  generalize ((c + 3) * 1181783497276652981 % 2305843009213693951 + (k + 1) * 614889782588491411) % 2305843009213693951 = a at *
  refine ⟨mulP a1 (by omega) a1 (by omega), ?_⟩
  have b1 : 0 ≤ a * a % 999999999999999989 := Int.emod_nonneg _ (by decide)
  have b2 : a * a % 999999999999999989 < 999999999999999989 := Int.emod_lt_of_pos _ (by decide)
  generalize a * a % 999999999999999989 = b at *
  have d1 : 0 ≤ b / 1000003 := Int.ediv_nonneg b1 (by decide)
  have d2 : b / 1000003 ≤ b := Int.ediv_le_self _ b1
  refine ⟨divP (by decide) (by decide), mulP (by omega) (by omega) (by omega) (by omega), divP (by decide) (by decide), ?_⟩
  have e1 : 0 ≤ (b + 1) * (b / 1000003 + 7) % 2305843009213693951 := Int.emod_nonneg _ (by decide)
  have e2 : (b + 1) * (b / 1000003 + 7) % 2305843009213693951 < 2305843009213693951 := Int.emod_lt_of_pos _ (by decide)
  generalize (b + 1) * (b / 1000003 + 7) % 2305843009213693951 = g at *
  have f1 : 0 ≤ g / 7919 := Int.ediv_nonneg e1 (by decide)
  have f2 : g / 7919 ≤ g := Int.ediv_le_self _ e1
  exact q _ f1 (by omega)
theorem law_mix_ok (n : Nat) (H : Hp) (c k : Int) (Q : VK) (E : XK) (hc : 0 ≤ c) (hc2 : c < 2 ^ 310) (hk : 0 ≤ k) (hk2 : k ≤ 1000) (q : ∀ r : Int, 0 ≤ r → r < 2 ^ 61 → Q (.int r) H) : run (pg.tb K) (n + 1) d_law_mix [.int c, .int k] H Q E := by
  rw [r_law_mix]
  refine ⟨rfl, ?_⟩
  show tSeq _ mix2 _ _ _
  have m2 := fun x y => mix2_ok { nx := fun _ H' => Q .non H', rt := Q } H c k x y hc hc2 hk hk2 q
  have p60 := pow10 60 (by decide) (by decide)
  have m60 : CMulW 4 1000000000000000000000000000000000000000000000000000000000000 := mulP (by decide) (by decide) (by decide) (by decide)
  have d4 : CDivW c 4 := divP (by decide) (by decide)
  simp only [L2.start]
  simp [m2, p60, m60, d4]
  by_cases h : c % 4 = 0
  · simp [h]
    by_cases h2 : c < 4000000000000000000000000000000000000000000000000000000000000
    · exact .inl h2
    · refine .inr ⟨by omega, forA_rng1 ?_⟩
      simp
      refine ⟨by omega, by omega, forW_by jr (fun i σ' H' => H' = H ∧ ∃ m y, σ' = [some (.int c), some (.int k), some (.int m), y] ∧ 0 ≤ m) (fun _ _ _ _ => trivial) ⟨rfl, _, _, rfl, Int.ediv_nonneg hc (by decide)⟩ ?_ ?_⟩
      · rintro i x σ' H' hx ⟨rfl, m, y, rfl, hm⟩
        simp
        exact ⟨divP (by decide) (by decide), Int.ediv_nonneg hm (by decide)⟩
      · rintro σ' H' ⟨rfl, m, y, rfl, hm⟩
        simp
        refine q _ (Int.emod_nonneg _ (by decide)) (Int.lt_trans (Int.emod_lt_of_pos _ (by decide)) (by decide))
  · exact .inl h
end K23
end
section
set_option Elab.async false
set_option maxRecDepth 100000
set_option maxHeartbeats 1000000
set_option exponentiation.threshold 500
namespace K23
open PySem PySem.Spec PyProof.Rows L2 RD
variable {K : PySem.W.Frag}
abbrev abc : Str := Str.ofString "abcdefghijklmnopqrstuvwxyz"
theorem abc_len : abc.cps.toList.length = 26 := by decide +kernel
theorem abc_len2 : abc.length = 26 := by decide +kernel
theorem ix_abc {H : Hp} {i : Int} (h0 : 0 ≤ i) (h1 : i < 26) : ∃ z : Str, z.length = 1 ∧ ixV H (.str abc) (.int i) = some (.str z) := by
  obtain ⟨j, rfl⟩ := Int.eq_ofNat_of_zero_le h0
  have hj : j < abc.cps.toList.length := by rw [abc_len]; omega
  refine ⟨⟨#[abc.cps.toList[j]]⟩, rfl, ?_⟩
  show (if abc.length ≤ sizeLine then (atI abc.cps.toList ((j : Nat) : Int)).map (fun c => V.str ⟨#[c]⟩) else none) = _
  rw [if_pos (by rw [abc_len2]; decide), atI_nat (List.getElem?_eq_getElem hj)]
  rfl
theorem s_slS {z : Str} {lo hi : Option Int} {H : Hp} {Q : VK} : rSl (.str z) lo hi H Q = (z.length ≤ sizeLine ∧ Q (.str (cutS z lo hi)) H) := rfl
theorem law_names_ok (n : Nat) (H : Hp) (c : Int) (Q : VK) (E : XK) (hc : 0 ≤ c) (hc2 : c < 2 ^ 310) (q : ∀ H' a (ss : List Str), Same H H' → H a = none → H' a = some (.lst (ss.map V.str)) → ss.length = 6 → Q (.ref a) H') : run (pg.tb K) (n + 2) d_law_names [.int c] H Q E := by
  have sL : sizeLine = 16777216 := by decide
  rw [r_law_names]
  refine ⟨rfl, ?_⟩
  simp only [L2.start]
  simp
  refine lcA_rng1 ?_
  simp
  refine lcW_by jr (fun D i acc H' => Same H H' ∧ ∃ is : List Int, acc = is.map V.int ∧ ∀ x ∈ is, 0 ≤ x ∧ x < 676) (by simp) (fun _ _ _ _ _ _ => trivial) (fun D hD => ⟨same_new hD _, [], rfl, by simp⟩) ?_ ?_
  · rintro D i x acc H' Qy hD hx ha hl ⟨s, is, e, hb⟩ hQ
    obtain ⟨hi, rfl⟩ := rngV_get hx
    simp
    refine law_mix_ok n H' c i _ _ hc hc2 (by omega) (by omega) fun r r0 r1 => ?_
    simp
    refine hQ _ H' ha ⟨same_upd hD s, is ++ [r % 676], by rw [e]; simp, fun x hx => ?_⟩
    rcases List.mem_append.mp hx with h | h
    · exact hb x h
    · rw [List.mem_singleton.mp h]
      exact ⟨Int.emod_nonneg _ (by decide), Int.emod_lt_of_pos _ (by decide)⟩
  rintro D acc H1 hD ha hl ⟨s1, is, rfl, hb⟩
  have hl4 : is.length = 4 := by simpa using hl
  simp [mtT]
  refine lcA_lst ?_
  simp
  refine ⟨⟨_, sqL_vw (vw_lst ha)⟩, lcW_by jl (fun D2 i acc H' => Same H1 H' ∧ ∃ ys : List Str, acc = ys.map V.str ∧ ∀ y ∈ ys, y.length = 2) (by simp; omega) (fun D2 i acc H' _ iv => vw_lst (iv.1 _ _ ha)) (fun D2 hD2 => ⟨same_new hD2 _, [], rfl, by simp⟩) ?_ ?_⟩
  · rintro D2 i x acc H' Qy hD2 hx ha2 hl2 ⟨s, ys, e, hy⟩ hQ
    rw [List.getElem?_map] at hx
    obtain ⟨r, hr, rfl⟩ := Option.map_eq_some_iff.mp hx
    obtain ⟨r0, r1⟩ := hb r (mem_of_get hr)
    simp
    obtain ⟨z1, l1, e1⟩ := ix_abc (H := H') (i := r % 26) (Int.emod_nonneg _ (by decide)) (Int.emod_lt_of_pos _ (by decide))
    obtain ⟨z2, l2, e2⟩ := ix_abc (H := H') (i := r / 26) (by omega) (by omega)
    refine ⟨_, e1, divP (by decide) (by decide), _, e2, ?_⟩
    simp [l1, l2]
    refine ⟨by omega, hQ _ H' ha2 ⟨same_upd hD2 s, ys ++ [z1 ++ z2], by rw [e]; simp, fun x hx => ?_⟩⟩
    rcases List.mem_append.mp hx with h | h
    · exact hy x h
    · rw [List.mem_singleton.mp h, Str.length_append, l1, l2]
  rintro D2 acc H2 hD2 ha2 hl2 ⟨s2, ys, rfl, hy⟩
  have hl5 : ys.length = 4 := by simp at hl2; omega
  have hsum : (ys.map (·.length)).sum = 8 := by
    have : ys.map (·.length) = List.replicate 4 2 := by
      rw [← hl5]
      exact List.eq_replicate_iff.mpr ⟨by simp, fun b hb => by
        obtain ⟨y, h1, h2⟩ := List.mem_map.mp hb
        rw [← h2]
        exact hy y h1⟩
    rw [this]
    rfl
  have wl : (Txt.join (Str.ofString "") ys).length = 8 := by rw [join_len, hsum]
  have el : (Str.ofString "").length = 0 := by decide
  show ∃ a v xs ys', _ ∧ _
  refine ⟨_, _, _, ys, rfl, rfl, lstA_vw (vw_lst ha2), txts_of ys, by rw [hsum, el]; omega, ?_⟩
  generalize Txt.join (Str.ofString "") ys = word at wl
  have s12 := s1.trans s2
  refine law_mix_ok n H2 c 4 _ _ hc hc2 (by decide) (by decide) fun r4 r40 r41 => ?_
  simp
  refine law_mix_ok n H2 c 5 _ _ hc hc2 (by decide) (by decide) fun r5 r50 r51 => ?_
  simp
  have m8 := Int.emod_nonneg r4 (show (8 : Int) ≠ 0 by decide)
  refine ⟨by omega, ?_⟩
  refine law_mix_ok n H2 c 6 _ _ hc hc2 (by decide) (by decide) fun r6 r60 r61 => ?_
  refine law_mix_ok n H2 c 7 _ _ hc hc2 (by decide) (by decide) fun r7 r70 r71 => ?_
  simp
  by_cases h3 : r7 % 3 = 0
  · refine .inr ⟨h3, lcA_rng1 ?_⟩
    simp
    refine lcW_by jr (fun D i acc H' => Same H2 H' ∧ ∃ ys : List Str, acc = ys.map V.str) (by simp) (fun _ _ _ _ _ _ => trivial) (fun D hD => ⟨same_new hD _, [], rfl⟩) ?_ ?_
    · rintro D i x acc H' Qy hD hx ha hl ⟨s, ys, e⟩ hQ
      obtain ⟨hi, rfl⟩ := rngV_get hx
      simp [s_slS]
      refine ⟨by omega, hQ _ H' ha ⟨same_upd hD s, ys ++ [_], by rw [e, List.map_append]; rfl⟩⟩
    · rintro D acc H3 hD ha hl ⟨s, ys, rfl⟩
      exact q H3 D ys (s12.trans s) (same_none s12 hD) ha (by simpa using hl)
  · refine .inl ⟨h3, fun D hD => forA_rng1 ?_⟩
    simp
    refine forW_by jr (fun i σ' H' => (∃ x y z, σ' = [some (.int c), some (.str abc), x, y, some (.str word), z.1, some (.int (1 + r4 % 8)), some (.int (r5 % (1 + r4 % 8))), some (.int r6), some (.ref D), z.2]) ∧ Same H2 H' ∧ ∃ ys : List Str, H' D = some (.lst (ys.map V.str)) ∧ ys.length = i) (fun _ _ _ _ => trivial) ⟨⟨_, _, (_, _), rfl⟩, same_new hD _, [], upd_same, rfl⟩ ?_ ?_
    · rintro i x σ' H' hx ⟨⟨x0, y0, z0, rfl⟩, s, ys, hys, hl⟩
      obtain ⟨hi, rfl⟩ := rngV_get hx
      have hi : i < 6 := by simpa using hi
      simp
      obtain ⟨z1, l1, e1⟩ := ix_abc (H := H') (i := (r6 + 5 * (i : Int)) % 26) (Int.emod_nonneg _ (by decide)) (Int.emod_lt_of_pos _ (by decide))
      refine ⟨mulP (by decide) (by decide) (by omega) (Int.lt_of_lt_of_le (b := 6) (by omega) (by decide)), _, e1, ?_⟩
      simp [mtT, hys, s_slS]
      have c1 := cutS_length word none (some (r5 % (1 + r4 % 8)))
      have c2 := cutS_length word (some (r5 % (1 + r4 % 8) + 1)) (some (1 + r4 % 8 + (i : Int) % 2))
      refine ⟨by omega, by omega, by omega, by rw [Str.length_append]; omega, ?_⟩
      simp [rAppendA, hys]
      refine ⟨by omega, same_upd hD s, ys ++ [_], by rw [upd_same, List.map_append]; rfl, by simp [hl]⟩
    · rintro σ' H3 ⟨⟨x0, y0, z0, rfl⟩, s, ys, hys, hl⟩
      simp
      exact q H3 D ys (s12.trans s) (same_none s12 hD) hys (by simpa using hl)
end K23
end
section
set_option Elab.async false
set_option maxRecDepth 100000
set_option maxHeartbeats 1000000
set_option exponentiation.threshold 500
namespace RD
open PySem PySem.Spec PyProof.Rows L2
theorem atI_lt {α : Type} {xs : List α} {i : Int} (h : 0 ≤ i) (h2 : i < xs.length) : ∃ v, atI xs i = some v ∧ v ∈ xs := by
  obtain ⟨j, rfl⟩ := Int.eq_ofNat_of_zero_le h
  have hj : j < xs.length := by omega
  exact ⟨xs[j], atI_nat (List.getElem?_eq_getElem hj), List.getElem_mem _⟩
end RD
namespace K23
open PySem PySem.Spec PyProof.Rows L2 RD
variable {K : PySem.W.Frag}
theorem emod_b (a : Int) {b : Int} (h : 0 < b) : 0 ≤ a % b ∧ a % b < b := ⟨Int.emod_nonneg _ (Int.ne_of_gt h), Int.emod_lt_of_pos _ h⟩
/-- a leaf: an int, a text -/
def Leaf (x : V) : Prop := (∃ i, x = .int i) ∨ ∃ s, x = .str s
theorem Leaf.own {x : V} (h : Leaf x) : ∃ d : Doc, (∀ H, Own H x d []) ∧ parts d = 1 ∧ nd d ∧ d.depth = 0 ∧ d.wf := by
  rcases h with ⟨i, rfl⟩ | ⟨s, rfl⟩
  · exact ⟨.num i, fun H => .num i, by rw [parts], trivial, rfl, trivial⟩
  · exact ⟨.txt s, fun H => .txt s, by rw [parts], trivial, rfl, trivial⟩
theorem law_leaf_ok (n : Nat) (H : Hp) (c k : Int) (Q : VK) (E : XK) (hc : 0 ≤ c) (hc2 : c < 2 ^ 310) (hk : 0 ≤ k) (hk2 : k ≤ 1000) (q : ∀ x H', Same H H' → Leaf x → Q x H') : run (pg.tb K) (n + 2) d_law_leaf [.int c, .int k] H Q E := by
  rw [r_law_leaf]
  refine ⟨rfl, ?_⟩
  simp only [L2.start]
  simp
  refine law_mix_ok n H c k _ _ hc hc2 hk hk2 fun r r0 r1 => ?_
  have z1 : (2 : Int) ^ 61 < 2 ^ 400 := by decide
  simp
  refine ⟨divP (by decide) (by decide), ?_⟩
  have w0 := emod_b r (show (0 : Int) < 3 by decide)
  have d0 : 0 ≤ r / 3 := Int.ediv_nonneg r0 (by decide)
  have d1 : r / 3 ≤ r := Int.ediv_le_self _ r0
  generalize r / 3 = m at *
  by_cases h0 : r % 3 = 0
  · exact .inr ⟨h0, q _ H (Same.refl H) (.inl ⟨_, rfl⟩)⟩
  · refine .inl ⟨h0, ?_⟩
    by_cases h1 : r % 3 = 1
    · refine .inr ⟨h1, ?_⟩
      simp [s_slS]
      have cl := cutS_length abc (some (m % 26)) none
      have := abc_len2
      have sL : sizeLine = 16777216 := by decide
      exact ⟨by rw [abc_len2]; decide, divP (by decide) (by decide), Nat.le_trans cl (by omega), q _ H (Same.refl H) (.inr ⟨_, rfl⟩)⟩
    · refine .inl ⟨h1, ?_⟩
      have s2 := emod_b m (show (0 : Int) < 2 by decide)
      have w1 : CMulW (m % 2) 2 := mulP s2.1 (Int.lt_trans s2.2 (by decide)) (by decide) (by decide)
      have w2 : CMulW (1 - m % 2 * 2) m := wide_mul (a := 400) (b := 400) (Nat.lt_of_le_of_lt (m := 10) (by omega) (by decide)) (natAbs_lt d0 (by omega)) (by decide) (by decide) (by decide)
      refine ⟨w1, w2, pow10 14 (by decide) (by decide), pow10 46 (by decide) (by decide), by decide, fun p hp => ⟨divP (by decide) (by decide), ?_⟩⟩
      have i0 := emod_b (m / 2) (show (0 : Int) < 3 by decide)
      obtain ⟨v, hv, hm⟩ := atI_lt (xs := [V.int 1, V.int 100000000000000, V.int 10000000000000000000000000000000000000000000000]) i0.1 (by simpa using i0.2)
      have hvw : vw (upd H p (.lst [V.int 1, V.int 100000000000000, V.int 10000000000000000000000000000000000000000000000])) p = some (.lst [V.int 1, V.int 100000000000000, V.int 10000000000000000000000000000000000000000000000]) := vw_lst upd_same
      have w3 : ∀ y : Int, 0 ≤ y → y < 2 ^ 400 → CMulW ((1 - m % 2 * 2) * m) y := fun y y0 y1 => by
        refine wide_mul (a := 800) (b := 400) ?_ (natAbs_lt y0 y1) (by decide) (by decide) (by decide)
        rw [Int.natAbs_mul]
        have e1 : (1 - m % 2 * 2).natAbs ≤ 1 := by omega
        have e2 : m.natAbs < 2 ^ 400 := natAbs_lt d0 (by omega)
        calc (1 - m % 2 * 2).natAbs * m.natAbs ≤ 1 * m.natAbs := Nat.mul_le_mul_right _ e1
          _ = m.natAbs := Nat.one_mul _
          _ < 2 ^ 400 := e2
          _ ≤ 2 ^ 800 := Nat.pow_le_pow_right (by decide) (by decide)
      have fin : ∀ y : Int, 0 ≤ y → y < 2 ^ 400 → v = .int y → ∃ v_1, ixV (upd H p (.lst [V.int 1, V.int 100000000000000, V.int 10000000000000000000000000000000000000000000000])) (V.ref p) (V.int (m / 2 % 3)) = some v_1 ∧ rBin Operator.Mult (V.int ((1 - m % 2 * 2) * m)) v_1 (upd H p (.lst [V.int 1, V.int 100000000000000, V.int 10000000000000000000000000000000000000000000000])) Q := fun y y0 y1 e => by
        subst e
        refine ⟨.int y, by rw [ix_lst hvw]; exact hv, ?_⟩
        rw [s_bin_mul]
        exact ⟨w3 y y0 y1, q _ _ (same_new hp _) (.inl ⟨_, rfl⟩)⟩
      have hm' : v = .int 1 ∨ v = .int 100000000000000 ∨ v = .int 10000000000000000000000000000000000000000000000 := by simpa using hm
      have go : ∃ v_1, ixV (upd H p (.lst [V.int 1, V.int 100000000000000, V.int 10000000000000000000000000000000000000000000000])) (V.ref p) (V.int (m / 2 % 3)) = some v_1 ∧ rBin Operator.Mult (V.int ((1 - m % 2 * 2) * m)) v_1 (upd H p (.lst [V.int 1, V.int 100000000000000, V.int 10000000000000000000000000000000000000000000000])) Q := by
        rcases hm' with e | e | e
        · exact fin _ (by decide) (by decide) e
        · exact fin _ (by decide) (by decide) e
        · exact fin _ (by decide) (by decide) e
      exact go
theorem law_part_ok (n : Nat) (H : Hp) (c k1 k2 : Int) (Q : VK) (E : XK) (hc : 0 ≤ c) (hc2 : c < 2 ^ 310) (q : ∀ x d H' fp, Same H H' → Own H' x d fp → (∀ a ∈ fp, H a = none) → parts d = 1 → nd d → Q x H') : run (pg.tb K) (n + 3) d_law_part [.int c, .int k1, .int k2] H Q E := by
  rw [r_law_part]
  refine ⟨rfl, ?_⟩
  simp only [L2.start]
  simp
  refine law_mix_ok (n + 1) H c 2 _ _ hc hc2 (by decide) (by decide) fun r r0 r1 => ?_
  simp
  have leaf : run (pg.tb K) (n + 2) d_law_leaf [.int c, .int 3] H Q fun cls d H => E cls d H := law_leaf_ok n H c 3 _ _ hc hc2 (by decide) (by decide) fun x H' s l => by
    obtain ⟨d, o, h1, h2, _⟩ := l.own
    exact q x d H' [] s (o H') (fun _ m => by cases m) h1 h2
  have row : ∀ p, H p = none → Q (.ref p) (upd H p (.lst [])) := fun p hp => q _ (.row []) _ [p] (same_new hp _) (.row upd_same .nil (by simp)) (fun a m => by rw [List.mem_singleton.mp m]; exact hp) (by simp [parts, cntL]) trivial
  have tab : ∀ p, H p = none → Q (.ref p) (upd H p (.dK [])) := fun p hp => q _ (.tab []) _ [p] (same_new hp _) (.tab upd_same .nil (by simp)) (fun a m => by rw [List.mem_singleton.mp m]; exact hp) (by simp [parts, cntK]) ⟨.nil, trivial⟩
  simp [leaf]
  by_cases h1 : r % 9 < 3
  · have h1' : ¬ 3 ≤ r % 9 := by omega
    have h2 : r % 9 < 6 := by omega
    have h2' : ¬ 6 ≤ r % 9 := by omega
    by_cases h3 : k1 < k2
    · have h3' : ¬ k2 ≤ k1 := by omega
      simp [h1, h1', h2, h2', h3, h3']
      exact row
    · have h3' : k2 ≤ k1 := by omega
      simp [h1, h1', h2, h2', h3, h3']
  · have h1' : 3 ≤ r % 9 := by omega
    by_cases h2 : r % 9 < 6
    · have h2' : ¬ 6 ≤ r % 9 := by omega
      by_cases h3 : k1 < k2
      · have h3' : ¬ k2 ≤ k1 := by omega
        simp [h1, h1', h2, h2', h3, h3']
        exact tab
      · have h3' : k2 ≤ k1 := by omega
        simp [h1, h1', h2, h2', h3, h3']
    · have h2' : 6 ≤ r % 9 := by omega
      simp [h1, h1', h2, h2']
end K23
end
section
set_option Elab.async false
set_option maxRecDepth 100000
set_option maxHeartbeats 1000000
namespace RD
open PySem PySem.Spec PyProof.Rows L2
@[simp] theorem s_disp {trs : List (TE × TE)} {σ : L2.St} {H : Hp} {Q : VK} : tDisp trs σ H Q = ∀ p, H p = none → tPairs trs σ (upd H p (.dK [])) fun ps H2 => H2 p = some (.dK []) ∧ ∃ kvs : List (Key × V), ps = kvs.map (fun kv => (kV kv.1, kv.2)) ∧ kvs.length ≤ 15 ∧ Q (.ref p) (upd H2 p (.dK (mergeK [] kvs))) := rfl
@[simp] theorem s_pnil {σ : L2.St} {H : Hp} {Q : List (V × V) → Hp → Prop} : tPairs [] σ H Q = Q [] H := rfl
@[simp] theorem s_pcons {tk tv : TE} {r : List (TE × TE)} {σ : L2.St} {H : Hp} {Q : List (V × V) → Hp → Prop} : tPairs ((tk, tv) :: r) σ H Q = tk σ H fun x H1 => tv σ H1 fun y H2 => tPairs r σ H2 fun ps H3 => Q ((x, y) :: ps) H3 := rfl
/-- some document, at most k deep -/
def GD (k : Nat) (H : Hp) (x : V) : Prop := ∃ d, Rep H x d ∧ d.wf ∧ d.depth ≤ k
theorem GD.same {k : Nat} {H H' : Hp} {x : V} (s : Same H H') (g : GD k H x) : GD k H' x := by
  obtain ⟨d, h1, h2, h3⟩ := g
  exact ⟨d, h1.same s, h2, h3⟩
theorem GD.up {k j : Nat} {H : Hp} {x : V} (g : GD k H x) (h : k ≤ j) : GD j H x := by
  obtain ⟨d, h1, h2, h3⟩ := g
  exact ⟨d, h1, h2, by omega⟩
theorem repL_of {k : Nat} {H : Hp} : ∀ {xs : List V}, (∀ x ∈ xs, GD k H x) → ∃ ds, RepL H xs ds ∧ (∀ d ∈ ds, d.wf ∧ d.depth ≤ k)
  | [], _ => ⟨[], .nil, fun _ h => by cases h⟩
  | x :: r, h => by
    obtain ⟨d, h1, h2, h3⟩ := h x List.mem_cons_self
    obtain ⟨ds, r1, r2⟩ := repL_of fun y hy => h y (List.mem_cons_of_mem _ hy)
    exact ⟨d :: ds, .cons h1 r1, fun e he => (List.mem_cons.mp he).elim (fun z => by rw [z]; exact ⟨h2, h3⟩) (r2 e)⟩
theorem gd_row {k : Nat} {H : Hp} {p : Addr} {xs : List V} (h : vw H p = some (.lst xs)) (g : ∀ x ∈ xs, GD k H x) (hl : xs.length ≤ 1000) : GD (k + 1) H (.ref p) := by
  obtain ⟨ds, r1, r2⟩ := repL_of g
  have := r1.length
  refine ⟨.row ds, .row h r1, ?_, ?_⟩
  · rw [Doc.wf]
    exact ⟨by omega, wfL_of fun d hd => (r2 d hd).1⟩
  · rw [Doc.depth]
    have : depthL ds ≤ k := depthL_le fun d hd => (r2 d hd).2
    omega
theorem lkK_none {ks : List (Str × Doc)} {s : Str} (h : lkK ks s = none) : s ∉ ks.map (·.1) := fun m => by
  obtain ⟨d, e⟩ := lkK_mem m
  rw [h] at e
  cases e
theorem RepK.snoc {H : Hp} {s : Str} {v : V} {d : Doc} (h : Rep H v d) : ∀ {kvs : List (Key × V)} {ks : List (Str × Doc)}, RepK H kvs ks → RepK H (kvs ++ [(.inr s, v)]) (ks ++ [(s, d)])
  | _, _, .nil => .cons h .nil
  | _, _, .cons h1 r => .cons h1 (RepK.snoc h r)
theorem RepK.mapM {H : Hp} {s : Str} {v : V} {d : Doc} (h : Rep H v d) : ∀ {kvs : List (Key × V)} {ks : List (Str × Doc)}, RepK H kvs ks → ∃ ks', RepK H (kvs.map fun kv => if kv.1 = (.inr s : Key) then (kv.1, v) else kv) ks' ∧ ks'.map (·.1) = ks.map (·.1) ∧ ∀ p ∈ ks', p ∈ ks ∨ p.2 = d
  | _, _, .nil => ⟨[], .nil, rfl, fun _ h => by cases h⟩
  | _, _, .cons (k := k) (v := v0) (d := d0) h1 r => by
    obtain ⟨ks', r1, r2, r3⟩ := RepK.mapM (s := s) h r
    by_cases e : k = s
    · subst e
      rw [List.map_cons, if_pos rfl]
      exact ⟨(k, d) :: ks', RepK.cons h r1, by rw [List.map_cons, r2]; rfl, fun p hp => (List.mem_cons.mp hp).elim (fun z => .inr (by rw [z])) fun z => (r3 p z).imp (List.mem_cons_of_mem _) id⟩
    · rw [List.map_cons, if_neg (show ¬ ((.inr k : Key), v0).1 = .inr s from fun z => e (Sum.inr.inj z))]
      exact ⟨(k, d0) :: ks', RepK.cons h1 r1, by rw [List.map_cons, r2]; rfl, fun p hp => (List.mem_cons.mp hp).elim (fun z => .inl (by rw [z]; exact List.mem_cons_self)) fun z => (r3 p z).imp (List.mem_cons_of_mem _) id⟩
/-- a table of some documents -/
def GK (k : Nat) (H : Hp) (kvs : List (Key × V)) : Prop := ∃ ks, RepK H kvs ks ∧ (ks.map (·.1)).Nodup ∧ ∀ p ∈ ks, p.2.wf ∧ p.2.depth ≤ k
theorem GK.put {k : Nat} {H : Hp} {kvs : List (Key × V)} {s : Str} {v : V} (g : GK k H kvs) (h : GD k H v) : GK k H (putK kvs (.inr s) v) := by
  obtain ⟨ks, r, hn, hk⟩ := g
  obtain ⟨d, h1, h2, h3⟩ := h
  rcases r.val (k := s) with ⟨e1, e2⟩ | ⟨v1, d1, e1, e2, _⟩
  · rw [putK_new v e1]
    refine ⟨ks ++ [(s, d)], r.snoc h1, ?_, fun p hp => ?_⟩
    · rw [List.map_append, List.nodup_append]
      refine ⟨hn, by simp, fun a ha b hb z => ?_⟩
      simp at hb
      subst z
      subst hb
      exact lkK_none e2 ha
    · rcases List.mem_append.mp hp with h | h
      · exact hk p h
      · rw [List.mem_singleton.mp h]
        exact ⟨h2, h3⟩
  · unfold putK
    rw [valV_any, e1]
    obtain ⟨ks', r1, r2, r3⟩ := r.mapM (s := s) h1
    refine ⟨ks', r1, by rw [r2]; exact hn, fun p hp => ?_⟩
    rcases r3 p hp with h | h
    · exact hk p h
    · rw [h]
      exact ⟨h2, h3⟩
theorem GK.nil {k : Nat} {H : Hp} : GK k H [] := ⟨[], .nil, .nil, fun _ h => by cases h⟩
theorem gd_tab {k : Nat} {H : Hp} {p : Addr} {kvs : List (Key × V)} (h : vw H p = some (.dK kvs)) (g : GK k H kvs) (hl : kvs.length ≤ 60) : GD (k + 1) H (.ref p) := by
  obtain ⟨ks, r, hn, hk⟩ := g
  have := r.length
  refine ⟨.tab ks, .tab h r, ?_, ?_⟩
  · rw [Doc.wf]
    exact ⟨by omega, hn, wfK_of fun p hp => (hk p hp).1⟩
  · rw [Doc.depth]
    have : depthK ks ≤ k := depthK_le fun p hp => (hk p hp).2
    omega
end RD
namespace K23
open PySem PySem.Spec PyProof.Rows L2 RD
variable {K : PySem.W.Frag}
theorem Leaf.gd {x : V} (h : Leaf x) (H : Hp) : GD 0 H x := by
  obtain ⟨d, o, _, _, h4, h5⟩ := h.own
  exact ⟨d, (o H).rep, h5, by omega⟩
theorem law_value_ok (n : Nat) (H : Hp) (c : Int) (na : Addr) (ss : List Str) (Q : VK) (E : XK) (hc : 0 ≤ c) (hc2 : c < 2 ^ 310) (hn : vw H na = some (.lst (ss.map V.str))) (hl : ss.length = 6) (q : ∀ x H', Same H H' → GD 3 H' x → Q x H') : run (pg.tb K) (n + 3) d_law_value [.int c, .ref na] H Q E := by
  have ixn : ∀ (H' : Hp) (j : Nat), Same H H' → (hj : j < 6) → ixV H' (.ref na) (.int (j : Nat)) = some (.str (ss[j]'(by omega))) := fun H' j s hj => by
    rw [ix_lst (same_vw s hn)]
    exact atI_nat (by rw [List.getElem?_map, List.getElem?_eq_getElem (by omega)]; rfl)
  rw [r_law_value]
  refine ⟨rfl, ?_⟩
  simp only [L2.start]
  simp
  refine law_leaf_ok (n) H c 9 _ _ hc hc2 (by decide) (by decide) fun x H1 s1 lf => ?_
  have g0 := fun H => lf.gd H
  intro p1 n1
  have s2 := s1.trans (same_new n1 (.lst []))
  have t1 : ∀ H', Same (upd H1 p1 (.lst [])) H' → GD 1 H' (.ref p1) := fun H' s => gd_row (xs := []) (vw_lst (s _ _ upd_same)) (by simp) (by simp)
  generalize upd H1 p1 (.lst []) = H2 at s2 t1 ⊢
  intro p2 n2
  have s3 := same_new n2 (.dK [])
  have t2 : ∀ H', Same (upd H2 p2 (.dK [])) H' → GD 1 H' (.ref p2) := fun H' s => gd_tab (kvs := []) (vw_dK (s _ _ upd_same)) GK.nil (by simp)
  generalize upd H2 p2 (.dK []) = H3 at s3 t2 ⊢
  intro p3 n3
  have s4 := same_new n3 (.lst [])
  have t3 : ∀ H', Same (upd H3 p3 (.lst [])) H' → GD 1 H' (.ref p3) := fun H' s => gd_row (xs := []) (vw_lst (s _ _ upd_same)) (by simp) (by simp)
  generalize upd H3 p3 (.lst []) = H4 at s4 t3 ⊢
  refine ⟨by decide, ?_⟩
  intro p4 n4
  have s5 := same_new n4 (.lst [x, .ref p3])
  have t4 : ∀ H', Same (upd H4 p4 (.lst [x, .ref p3])) H' → GD 2 H' (.ref p4) := fun H' s => gd_row (vw_lst (s _ _ upd_same)) (by
    intro y hy
    simp at hy
    rcases hy with rfl | rfl
    · exact (g0 H').up (by decide)
    · exact t3 H' (s5.trans s)) (by simp)
  generalize upd H4 p4 (.lst [x, .ref p3]) = H5 at s5 t4 ⊢
  have s25 := s2.trans (s3.trans (s4.trans s5))
  intro p5 n5
  have ix0 := ixn (upd H5 p5 (.dK [])) 0 (s25.trans (same_new n5 _)) (by decide)
  refine ⟨_, ix0, upd_same, [(.inr _, x)], rfl, by simp, ?_⟩
  have s6 : Same H5 (upd (upd H5 p5 (.dK [])) p5 (.dK (mergeK [] [(Sum.inr ss[0], x)]))) := same_upd n5 (same_new n5 _)
  have t5 : ∀ H', Same (upd (upd H5 p5 (.dK [])) p5 (.dK (mergeK [] [(Sum.inr ss[0], x)]))) H' → GD 1 H' (.ref p5) := fun H' s => gd_tab (vw_dK (s _ _ upd_same)) (GK.put GK.nil (g0 H')) (by simp [mergeK, putK])
  generalize upd (upd H5 p5 (.dK [])) p5 (.dK (mergeK [] [(Sum.inr ss[0], x)])) = H6 at s6 t5 ⊢
  have s26 := s25.trans s6
  intro p6 n6
  have s7 := same_new n6 (.dK [])
  have ix1 := ixn (upd H6 p6 (.dK [])) 1 (s26.trans s7) (by decide)
  have e6 : upd H6 p6 (.dK []) p6 = some (.dK []) := upd_same
  generalize upd H6 p6 (.dK []) = H7 at s7 ix1 e6 ⊢
  refine ⟨_, ix1, by decide, ?_⟩
  intro p7 n7
  have s8 := same_new n7 (.lst [x])
  have t7 : upd H7 p7 (.lst [x]) p7 = some (.lst [x]) := upd_same
  generalize upd H7 p7 (.lst [x]) = H8 at s8 t7 ⊢
  refine ⟨s8 _ _ e6, [(.inr _, .ref p7)], rfl, by simp, by decide, ?_⟩
  have n76 : p7 ≠ p6 := fun e => by rw [e, e6] at n7; cases n7
  have s9 : Same H6 (upd H8 p6 (.dK (mergeK [] [(Sum.inr ss[1], .ref p7)]))) := same_upd n6 (s7.trans s8)
  have t6 : ∀ H', Same (upd H8 p6 (.dK (mergeK [] [(Sum.inr ss[1], .ref p7)]))) H' → GD 2 H' (.ref p6) := fun H' s => gd_tab (vw_dK (s _ _ upd_same)) (GK.put GK.nil (gd_row (xs := [x]) (vw_lst (s _ _ (by rw [upd_ne n76]; exact t7))) (by
    intro y hy
    simp at hy
    subst hy
    exact g0 H') (by simp))) (by simp [mergeK, putK])
  generalize upd H8 p6 (.dK (mergeK [] [(Sum.inr ss[1], .ref p7)])) = H9 at s9 t6 ⊢
  have s29 := s26.trans s9
  intro p8 n8
  have s10 := same_new n8 (.lst [.ref p6, x])
  have t8 : ∀ H', Same (upd H9 p8 (.lst [.ref p6, x])) H' → GD 3 H' (.ref p8) := fun H' s => gd_row (vw_lst (s _ _ upd_same)) (by
    intro y hy
    simp at hy
    rcases hy with rfl | rfl
    · exact t6 H' (s10.trans s)
    · exact (g0 H').up (by decide)) (by simp)
  generalize upd H9 p8 (.lst [.ref p6, x]) = H10 at s10 t8 ⊢
  have s210 := s29.trans s10
  intro p9 n9
  have s11 := same_new n9 (.dK [])
  have ix2 := ixn (upd H10 p9 (.dK [])) 1 (s210.trans s11) (by decide)
  have e9 : upd H10 p9 (.dK []) p9 = some (.dK []) := upd_same
  generalize upd H10 p9 (.dK []) = H11 at s11 ix2 e9 ⊢
  refine ⟨_, ix2, ?_⟩
  intro p10 n10
  have s12 := same_new n10 (.lst [])
  have t10 : upd H11 p10 (.lst []) p10 = some (.lst []) := upd_same
  generalize upd H11 p10 (.lst []) = H12 at s12 t10 ⊢
  have ix3 := ixn H12 2 (s210.trans (s11.trans s12)) (by decide)
  refine ⟨_, ix3, s12 _ _ e9, [(.inr _, .ref p10), (.inr _, x)], rfl, by simp, by decide, ?_⟩
  have n109 : p10 ≠ p9 := fun e => by rw [e, e9] at n10; cases n10
  have s13 : Same H10 (upd H12 p9 (.dK (mergeK [] [(Sum.inr ss[1], .ref p10), (Sum.inr ss[2], x)]))) := same_upd n9 (s11.trans s12)
  have t9 : ∀ H', Same (upd H12 p9 (.dK (mergeK [] [(Sum.inr ss[1], .ref p10), (Sum.inr ss[2], x)]))) H' → GD 2 H' (.ref p9) := fun H' s => gd_tab (vw_dK (s _ _ upd_same)) (GK.put (GK.put GK.nil (gd_row (k := 0) (xs := []) (vw_lst (s _ _ (by rw [upd_ne n109]; exact t10))) (by simp) (by simp))) ((g0 H').up (by decide))) (by
      have h1 := length_putK (putK ([] : List (Key × V)) (Sum.inr ss[1]) (.ref p10)) (Sum.inr ss[2]) x
      have h2 := length_putK ([] : List (Key × V)) (Sum.inr ss[1]) (.ref p10)
      show (putK (putK [] (Sum.inr ss[1]) (.ref p10)) (Sum.inr ss[2]) x).length ≤ 60
      simp at h2
      omega)
  generalize upd H12 p9 (.dK (mergeK [] [(Sum.inr ss[1], .ref p10), (Sum.inr ss[2], x)])) = H13 at s13 t9 ⊢
  have s213 := s210.trans s13
  intro p11 n11
  have s14 := same_new n11 (.lst [x, x, .ref p1, .ref p2, .ref p4, .ref p5, .ref p8, .ref p9])
  have e11 : vw (upd H13 p11 (.lst [x, x, .ref p1, .ref p2, .ref p4, .ref p5, .ref p8, .ref p9])) p11 = some (.lst [x, x, .ref p1, .ref p2, .ref p4, .ref p5, .ref p8, .ref p9]) := vw_lst upd_same
  have all : ∀ y ∈ [x, x, V.ref p1, .ref p2, .ref p4, .ref p5, .ref p8, .ref p9], GD 3 (upd H13 p11 (.lst [x, x, .ref p1, .ref p2, .ref p4, .ref p5, .ref p8, .ref p9])) y := by
    intro y hy
    have s1013 := s13.trans s14
    simp at hy
    rcases hy with rfl | rfl | rfl | rfl | rfl | rfl | rfl
    · exact (g0 _).up (by decide)
    · exact (t1 _ (s3.trans (s4.trans (s5.trans (s6.trans (s9.trans (s10.trans s1013))))))).up (by decide)
    · exact (t2 _ (s4.trans (s5.trans (s6.trans (s9.trans (s10.trans s1013)))))).up (by decide)
    · exact (t4 _ (s6.trans (s9.trans (s10.trans s1013)))).up (by decide)
    · exact (t5 _ (s9.trans (s10.trans s1013))).up (by decide)
    · exact t8 _ s1013
    · exact (t9 _ s14).up (by decide)
  have s214 := s213.trans s14
  generalize upd H13 p11 (.lst [x, x, .ref p1, .ref p2, .ref p4, .ref p5, .ref p8, .ref p9]) = H14 at s214 e11 all ⊢
  refine law_mix_ok (n + 1) H14 c 8 _ _ hc hc2 (by decide) (by decide) fun r r0 r1 => ?_
  have b8 := emod_b r (show (0 : Int) < 8 by decide)
  simp [ix_lst e11]
  obtain ⟨v, hv, hm⟩ := atI_lt (xs := [x, x, V.ref p1, .ref p2, .ref p4, .ref p5, .ref p8, .ref p9]) b8.1 (by simpa using b8.2)
  exact ⟨v, hv, q v H14 s214 (all v hm)⟩
end K23
end
section
set_option Elab.async false
set_option maxRecDepth 100000
set_option maxHeartbeats 1000000
set_option exponentiation.threshold 500
namespace RD
open PySem PySem.Spec PyProof.Rows L2
theorem cntL_app : ∀ (a b : List Doc), cntL (a ++ b) = cntL a + cntL b
  | [], b => by simp [cntL]
  | x :: r, b => by simp only [List.cons_append, cntL, cntL_app r b]; omega
theorem cntK_app : ∀ (a b : List (Str × Doc)), cntK (a ++ b) = cntK a + cntK b
  | [], b => by simp [cntK]
  | (k, x) :: r, b => by simp only [List.cons_append, cntK, cntK_app r b]; omega
theorem ndL_app : ∀ (a b : List Doc), ndL (a ++ b) ↔ ndL a ∧ ndL b
  | [], b => by simp [ndL]
  | x :: r, b => by simp only [List.cons_append, ndL, ndL_app r b, and_assoc]
theorem ndK_app : ∀ (a b : List (Str × Doc)), ndK (a ++ b) ↔ ndK a ∧ ndK b
  | [], b => by simp [ndK]
  | (k, x) :: r, b => by simp only [List.cons_append, ndK, ndK_app r b, and_assoc]
theorem OwnL.insert {H : Hp} {y : V} {e : Doc} {fy : List Addr} (oy : Own H y e fy) : ∀ {vs : List V} {ds : List Doc} {fps : List Addr} (i : Nat), OwnL H vs ds fps → (∀ a ∈ fy, a ∉ fps) → ∃ f2, OwnL H (vs.take i ++ [y] ++ vs.drop i) (ds.take i ++ [e] ++ ds.drop i) f2 ∧ (∀ a ∈ f2, a ∈ fps ∨ a ∈ fy) ∧ ∀ a, a ∈ fps ∨ a ∈ fy → a ∈ f2
  | vs, ds, fps, 0, o, dj => by
    refine ⟨fy ++ fps, ?_, fun a m => (List.mem_append.mp m).elim .inr .inl, fun a m => List.mem_append.mpr m.symm⟩
    simp
    exact .cons oy o dj
  | _, _, _, i + 1, .nil, dj => by
    refine ⟨fy ++ [], ?_, fun a m => (List.mem_append.mp m).elim .inr fun h => (by cases h), fun a m => List.mem_append.mpr m.symm⟩
    simp
    have := OwnL.cons oy .nil (fun _ _ => List.not_mem_nil)
    simpa using this
  | _, _, _, i + 1, .cons (fp := fp) h r n, dj => by
    obtain ⟨f2, o2, h2, h3⟩ := OwnL.insert oy i r fun a m z => dj a m (List.mem_append_right _ z)
    refine ⟨fp ++ f2, ?_, fun a m => ?_, fun a m => ?_⟩
    · simp only [List.take_succ_cons, List.drop_succ_cons, List.cons_append]
      refine .cons h o2 fun a m z => ?_
      rcases h2 a z with q | q
      · exact n a m q
      · exact dj a q (List.mem_append_left _ m)
    · rcases List.mem_append.mp m with m | m
      · exact .inl (List.mem_append_left _ m)
      · exact (h2 a m).imp (List.mem_append_right _) id
    · rcases m with m | m
      · rcases List.mem_append.mp m with m | m
        · exact List.mem_append_left _ m
        · exact List.mem_append_right _ (h3 a (.inl m))
      · exact List.mem_append_right _ (h3 a (.inr m))
end RD
namespace K23
open PySem PySem.Spec PyProof.Rows L2 RD
variable {K : PySem.W.Frag}
theorem law_laid_ok (n : Nat) (H : Hp) (a : Addr) (d e : Doc) (fpn fy : List Addr) (y : V) (na : Addr) (ss : List Str) (k : Int) (Q : VK) (E : XK) (o : Own H (.ref a) d fpn) (w : nd d) (hd : parts d ≤ 50) (oy : Own H y e fy) (we : nd e) (dj : ∀ b ∈ fy, b ∉ fpn)
    (hn : vw H na = some (.lst (ss.map V.str))) (hss : ss.length = 6) (k0 : 0 ≤ k) (k1 : k < 2 ^ 61)
    (q1 : ∀ d2 fp2 H', Own H' (.ref a) d2 fp2 → (∀ b, b ∈ fp2 ↔ b ∈ fpn ∨ b ∈ fy) → (∀ b u, b ≠ a → H b = some u → H' b = some u) → parts d2 = parts d + parts e → nd d2 → Q (.bl true) H')
    (q2 : ∀ H', Same H H' → Q (.bl false) H') : run (pg.tb K) (n + 1) d_law_laid [.ref a, y, .ref na, .int k] H Q E := by
  have sL : sizeLine = 16777216 := by decide
  rw [r_law_laid]
  refine ⟨rfl, ?_⟩
  simp only [L2.start]
  cases o with
  | row ha r nin =>
    rename_i vs ds fps
    have hl := r.rep.length
    rw [nd] at w
    rw [parts] at hd
    have := len_cntL ds
    have hi := emod_b k (show (0 : Int) < vs.length + 1 by omega)
    simp [isi_lst (vw_lst ha), mtT, ha, len_lst (vw_lst ha)]
    simp only [rInsertA, ha]
    refine ⟨_, _, rfl, by omega, hi.1, Int.lt_of_lt_of_le hi.2 (Int.le_trans (b := 1000) (by omega) (by decide)), ?_⟩
    obtain ⟨f2, o2, h2, h3⟩ := OwnL.insert oy (k % (vs.length + 1)).toNat r fun b m z => dj b m (List.mem_cons_of_mem _ z)
    have nf : a ∉ f2 := fun z => by
      rcases h2 a z with q | q
      · exact nin q
      · exact dj a q List.mem_cons_self
    generalize (k % (vs.length + 1)).toNat = i at o2 ⊢
    refine q1 _ (a :: f2) _ (.row upd_same (o2.stay fun b m => upd_ne fun (e : b = a) => nf (e ▸ m)) nf) (fun b => ⟨fun m => ?_, fun m => ?_⟩) (fun b u nb e => by rw [upd_ne nb]; exact e) ?_ ?_
    · rcases List.mem_cons.mp m with rfl | m
      · exact .inl List.mem_cons_self
      · exact (h2 b m).imp (List.mem_cons_of_mem _) id
    · rcases m with m | m
      · rcases List.mem_cons.mp m with rfl | m
        · exact List.mem_cons_self
        · exact List.mem_cons_of_mem _ (h3 b (.inl m))
      · exact List.mem_cons_of_mem _ (h3 b (.inr m))
    · have e1 : cntL ds = cntL (ds.take i) + cntL (ds.drop i) := by rw [← cntL_app, List.take_append_drop]
      simp only [parts, cntL_app, cntL]
      omega
    · have e1 : ndL (ds.take i) ∧ ndL (ds.drop i) := by rw [← ndL_app, List.take_append_drop]; exact w
      rw [nd, ndL_app, ndL_app]
      exact ⟨⟨e1.1, we, trivial⟩, e1.2⟩
  | tab ha r nin =>
    rename_i kvs ks fps
    have hl := r.rep.length
    rw [nd] at w
    rw [parts] at hd
    have := len_cntK ks
    simp [isi_dK (vw_dK ha)]
    refine lcA_lst ?_
    simp
    refine ⟨⟨_, sqL_vw hn⟩, lcW_if jl (fun D i acc H' => Same H H' ∧ ∃ ls : List Str, acc = ls.map V.str ∧ ∀ z ∈ ls, lkK ks z = none) (by simp; omega) (fun D i acc H' _ iv => same_vw iv.1 hn) (fun D hD => ⟨same_new hD _, [], rfl, by simp⟩) ?_ ?_⟩
    · rintro D i x acc H' QB Qy hD hx hac hl2 ⟨s, ls, e, hz⟩ hF hT hY
      rw [List.getElem?_map] at hx
      obtain ⟨z, hz1, rfl⟩ := Option.map_eq_some_iff.mp hx
      have hv : vw H' a = some (.dK kvs) := same_vw s (vw_dK ha)
      simp [inA, hv, keyOf]
      rcases r.rep.val (k := z) with ⟨e1, e2⟩ | ⟨v1, d1, e1, e2, _⟩
      · simp [e1]
        refine hT H' ?_
        simp
        refine hY _ H' hac ⟨same_upd hD s, ls ++ [z], by rw [e]; simp, fun w hw => ?_⟩
        rcases List.mem_append.mp hw with h | h
        · exact hz w h
        · rw [List.mem_singleton.mp h]
          exact e2
      · simp [e1]
        exact hF H' hac ⟨s, ls, e, hz⟩
    · rintro D acc H1 hD hac hl2 ⟨s, ls, rfl, hz⟩
      intro p hp
      have s2 := same_new hp (.lst [])
      have hD2 : vw (upd H1 p (.lst [])) D = some (.lst (ls.map V.str)) := vw_lst (s2 _ _ hac)
      have hp2 : vw (upd H1 p (.lst [])) p = some (.lst []) := vw_lst upd_same
      have s3 := s.trans s2
      have ha3 : upd H1 p (.lst []) a = some (.dK kvs) := s3 _ _ ha
      generalize upd H1 p (.lst []) = H2 at s3 hD2 hp2 ha3 ⊢
      cases ls with
      | nil =>
        refine eqI (.flatL hD2 hp2 rfl rfl rfl) ?_
        simp [allEq]
        exact q2 _ s3
      | cons z0 ls0 =>
        refine eqI (.lens hD2 hp2 (by simp)) ?_
        simp [len_lst hD2]
        have hi := emod_b k (show (0 : Int) < (ls0.length : Int) + 1 by omega)
        rw [ix_lst hD2]
        obtain ⟨v, hv, hm⟩ := atI_lt (xs := (z0 :: ls0).map V.str) hi.1 (by simpa using hi.2)
        obtain ⟨z, hzm, rfl⟩ := List.mem_map.mp hm
        refine ⟨_, hv, ?_⟩
        have hlk := hz z hzm
        have hnone : valV kvs (.inr z : Key) = none := r.rep.none2 hlk
        simp [rSet, ha3, keyOf]
        refine ⟨by omega, ?_⟩
        rw [putK_new y hnone]
        have o3 : OwnK H2 kvs ks fps := r.same s3
        have o4 := OwnK.snoc (k := z) (oy.same s3) o3 fun b m q => dj b m (List.mem_cons_of_mem _ q)
        have nf : a ∉ fps ++ fy := fun m => by
          rcases List.mem_append.mp m with m | m
          · exact nin m
          · exact dj a m List.mem_cons_self
        refine q1 (.tab (ks ++ [(z, e)])) (a :: (fps ++ fy)) _ (.tab upd_same (o4.stay fun b m => upd_ne fun (e : b = a) => nf (e ▸ m)) nf) (fun b => by simp only [List.mem_cons, List.mem_append, or_assoc]) (fun b u nb e => by rw [upd_ne nb]; exact s3 _ _ e) ?_ ?_
        · simp only [parts, cntK_app, cntK]
          omega
        · rw [nd, ndK_app, ndK]
          refine ⟨?_, w.2, we, trivial⟩
          rw [List.map_append, List.nodup_append]
          refine ⟨w.1, by simp, fun b hb c hc z2 => ?_⟩
          simp at hc
          subst z2
          subst hc
          exact lkK_none hlk hb
end K23
end
section
set_option Elab.async false
set_option maxRecDepth 100000
set_option maxHeartbeats 1000000
set_option exponentiation.threshold 500
namespace RD
open PySem PySem.Spec PyProof.Rows L2
@[simp] theorem s_gtup {K : PySem.W.Frag} {n : Nat} {t : TGs} {v : V} {σ : L2.St} {H : Hp} {Q : L2.St → Hp → Prop} : gTup K n t v σ H Q = ∃ a xs, v = .ref a ∧ SqT K H a xs ∧ xs.length = n ∧ t xs σ H Q := rfl
@[simp] theorem s_max {i j : Int} {H : Hp} {Q : VK} : rMax [.int i, .int j] H Q = Q (.int (max i j)) H := by
  show (∃ i' j', [V.int i, V.int j] = [.int i', .int j'] ∧ Q (.int (max i' j')) H) = _
  apply propext
  constructor
  · rintro ⟨i', j', e, h⟩
    cases e
    exact h
  · intro h
    exact ⟨_, _, rfl, h⟩
@[simp] theorem s_min {i j : Int} {H : Hp} {Q : VK} : rMin [.int i, .int j] H Q = Q (.int (min i j)) H := by
  show (∃ i' j', [V.int i, V.int j] = [.int i', .int j'] ∧ Q (.int (min i' j')) H) = _
  apply propext
  constructor
  · rintro ⟨i', j', e, h⟩
    cases e
    exact h
  · intro h
    exact ⟨_, _, rfl, h⟩
def Rng2 (vs : List V) (P : Int → Int → Prop) : Prop := ∃ i j : Int, vs = [.int i, .int j] ∧ P i j
@[simp] theorem s_Rng2 {i j : Int} {P : Int → Int → Prop} : Rng2 [.int i, .int j] P = P i j := by
  apply propext
  constructor
  · rintro ⟨i', j', e, h⟩
    cases e
    exact h
  · intro h
    exact ⟨_, _, rfl, h⟩
theorem forA_r2 {g : TG} {tb : TS} {D : Ends} {σ : L2.St} {H : Hp} {ta : TA} (h : ta σ H fun vs H1 => Rng2 vs fun i j => (-(2 ^ 62) ≤ i ∧ i < 2 ^ 62 ∧ -(2 ^ 62) ≤ j ∧ j < 2 ^ 62) ∧ ForW (Itr i (j - i).toNat) g tb D σ H1) : forA (tFor (iRng2 ta) g tb) D σ H := .inl h
theorem isi_ld {H : Hp} {x : V} {d : Doc} {fp : List Addr} {t : Addr} (o : Own H x d fp) (ht : H t = some (.tup [.ty "list", .ty "dict"])) : ∃ b, isiA H x (.ref t) = some b ∧ (b = true → ∃ a, x = .ref a ∧ a ∈ fp) := by
  cases o with
  | num i => exact ⟨false, by simp [isiA, tyA, ht, isiTup], fun z => by cases z⟩
  | txt i => exact ⟨false, by simp [isiA, tyA, ht, isiTup], fun z => by cases z⟩
  | row h r n => exact ⟨true, by simp [isiA, tyA, vw_lst h, ht, isiTup], fun _ => ⟨_, rfl, List.mem_cons_self⟩⟩
  | tab h r n => exact ⟨true, by simp [isiA, tyA, vw_dK h, ht, isiTup], fun _ => ⟨_, rfl, List.mem_cons_self⟩⟩
end RD
namespace K23
open PySem PySem.Spec PyProof.Rows L2 RD
variable {K : PySem.W.Frag}
/-- the rows and tables that may hold more -/
def Hold (H : Hp) (fp : List Addr) (h : V) : Prop := ∃ a dp, TupAt H h [.ref a, .int dp] ∧ a ∈ fp
/-- the growing document: its tree, its list of holders -/
structure Grow (H0 H' : Hp) (dv : V) (hl0 : Addr) (mn i : Nat) (d : Doc) (fp : List Addr) (hs : List V) : Prop where
  s : Same H0 H'
  o : Own H' dv d fp
  nd : nd d
  p : parts d = mn
  m : mn ≤ 1 + i
  fr : ∀ a ∈ fp, H0 a = none
  e : H' hl0 = some (.lst hs)
  nf : hl0 ∉ fp
  l : hs.length ≤ 1 + i
  hh : ∀ h ∈ hs, Hold H' fp h
def PvD (H0 : Hp) (pre : Int → L2.St) (dv : V) (hl0 : Addr) (i : Nat) (σ : L2.St) (H' : Hp) : Prop :=
  ∃ (mn : Nat) (x8 x9 x10 x11 x12 : Option V) (d : Doc) (fp : List Addr) (hs : List V), σ = pre mn ++ [x8, x9, x10, x11, x12] ∧ Grow H0 H' dv hl0 mn i d fp hs
theorem Grow.same {H0 H' H2 : Hp} {dv : V} {hl0 : Addr} {mn i : Nat} {d : Doc} {fp : List Addr} {hs : List V} (g : Grow H0 H' dv hl0 mn i d fp hs) (s : Same H' H2) : Grow H0 H2 dv hl0 mn i d fp hs :=
  ⟨g.s.trans s, g.o.same s, g.nd, g.p, g.m, g.fr, s _ _ g.e, g.nf, g.l, fun h m => by
    obtain ⟨a, dp, h1, h2⟩ := g.hh h m
    exact ⟨a, dp, h1.same s, h2⟩⟩
theorem Grow.next {H0 H' : Hp} {dv : V} {hl0 : Addr} {mn i : Nat} {d : Doc} {fp : List Addr} {hs : List V} (g : Grow H0 H' dv hl0 mn i d fp hs) : Grow H0 H' dv hl0 mn (i + 1) d fp hs :=
  ⟨g.s, g.o, g.nd, g.p, by have := g.m; omega, g.fr, g.e, g.nf, by have := g.l; omega, g.hh⟩
/-- one part more -/
theorem Grow.add {H0 H' H2 : Hp} {dv : V} {hl0 a : Addr} {mn i : Nat} {d d1 d2 : Doc} {fp fp1 fp2 fy : List Addr} {hs : List V} {pt : Doc → Doc} (g : Grow H0 H' dv hl0 mn i d fp hs) (l : Lens H' dv d fp (.ref a) d1 fp1 pt) (ap : a ∈ fp1) (hp : ∀ e, parts (pt e) + parts d1 = parts d + parts e) (hn : ∀ e, RD.nd e → RD.nd (pt e))
    (fr : ∀ b ∈ fy, H0 b = none) (fr2 : ∀ b ∈ fy, b ∉ fp) (nh : hl0 ∉ fy) (o2 : Own H2 (.ref a) d2 fp2) (mem : ∀ b, b ∈ fp2 ↔ b ∈ fp1 ∨ b ∈ fy) (kp : ∀ b u, b ≠ a → H' b = some u → H2 b = some u) (hp2 : parts d2 = parts d1 + 1) (nd2 : RD.nd d2) : ∃ d3 fp3, Grow H0 H2 dv hl0 (mn + 1) (i + 1) d3 fp3 hs ∧ ∀ b ∈ fy, b ∈ fp3 := by
  have haf := l.inn a ap
  obtain ⟨f3, o3, m1, m2, m3⟩ := l.set H2 d2 fp2 o2 (fun b hb nb => by
    obtain ⟨u, hu⟩ := g.o.there b hb
    rw [hu]
    exact kp b u (fun e => nb (e ▸ ap)) hu) (fun b hb => ((mem b).mp hb).imp id (fr2 b))
  have sub : ∀ b ∈ fp, b ∈ f3 := fun b hb => by
    by_cases h1 : b ∈ fp1
    · exact m3 b ((mem b).mpr (.inl h1))
    · exact m2 b hb h1
  have hla : hl0 ≠ a := fun e => g.nf (e ▸ haf)
  refine ⟨pt d2, f3, ⟨fun b u hb => ?_, o3, hn _ nd2, ?_, ?_, fun b hb => ?_, kp _ _ hla g.e, fun hb => ?_, ?_, fun h hm => ?_⟩, fun b hb => m3 b ((mem b).mpr (.inr hb))⟩
  · refine kp b u (fun e => ?_) (g.s b u hb)
    rw [e, g.fr a haf] at hb
    cases hb
  · have := hp d2
    have := g.p
    omega
  · have := g.m
    omega
  · rcases m1 b hb with h | h
    · exact g.fr b h
    · rcases (mem b).mp h with h | h
      · exact g.fr b (l.inn b h)
      · exact fr b h
  · rcases m1 _ hb with h | h
    · exact g.nf h
    · rcases (mem _).mp h with h | h
      · exact g.nf (l.inn _ h)
      · exact nh h
  · have := g.l
    omega
  · obtain ⟨b, dp, ⟨t, e1, e2⟩, h2⟩ := g.hh h hm
    refine ⟨b, dp, ⟨t, e1, ?_⟩, sub b h2⟩
    have hta : t ≠ a := fun e => by
      subst e
      have := l.own
      cases this with
      | row h r n => rw [vw_lst h] at e2; cases e2
      | tab h r n => rw [vw_dK h] at e2; cases e2
    unfold vw at e2 ⊢
    cases ht : H' t with
    | none => rw [ht] at e2; cases e2
    | some u =>
      rw [kp t u hta ht]
      rw [ht] at e2
      exact e2
theorem law_doc_ok (n : Nat) (H : Hp) (sa na : Addr) (ns : List Int) (ss : List Str) (Q : VK) (E : XK) (hs : vw H sa = some (.lst (ns.map V.int))) (hl : ns.length ≤ 63) (hn : vw H na = some (.lst (ss.map V.str))) (hss : ss.length = 6)
    (q : ∀ tv H' dv d, Same H H' → TupAt H' tv [dv, .int (parts d : Nat)] → Rep H' dv d → nd d → parts d ≤ 30 → Q tv H') : run (pg.tb K) (n + 4) d_law_doc [.ref sa, .int 4, .ref na] H Q E := by
  have sL : sizeLine = 16777216 := by decide
  rw [r_law_doc]
  refine ⟨rfl, ?_⟩
  simp only [L2.start]
  simp
  refine law_cell_ok (n + 2) H sa ns 4 _ _ hs (by decide) (by decide) fun c0 c00 c01 => ?_
  have z310 : (2 : Int) ^ 300 < 2 ^ 310 := by decide
  refine ⟨by decide, ?_⟩
  intro pm nm
  have s1 := same_new nm (.lst [.int 4, .int 4, .int 4, .int 16])
  have em : vw (upd H pm (.lst [.int 4, .int 4, .int 4, .int 16])) pm = some (.lst [.int 4, .int 4, .int 4, .int 16]) := vw_lst upd_same
  generalize upd H pm (.lst [.int 4, .int 4, .int 4, .int 16]) = H1 at s1 em ⊢
  refine law_mix_ok (n + 2) H1 c0 4 _ _ c00 (by omega) (by decide) (by decide) fun r r0 r1 => ?_
  have b4 := emod_b r (show (0 : Int) < 4 by decide)
  simp [ix_lst em]
  obtain ⟨mv, hmv, hmm⟩ := atI_lt (xs := [V.int 4, .int 4, .int 4, .int 16]) b4.1 (by simpa using b4.2)
  have hmost : ∃ m : Int, mv = .int m ∧ (m = 4 ∨ m = 16) := by
    simp at hmm
    rcases hmm with rfl | rfl
    · exact ⟨4, rfl, .inl rfl⟩
    · exact ⟨16, rfl, .inr rfl⟩
  obtain ⟨most, rfl, hmost⟩ := hmost
  refine ⟨_, hmv, ?_⟩
  refine law_part_ok n H1 c0 0 most _ _ c00 (by omega) fun dv d0 H2 fp0 s2 o0 fr0 p0 nd0 => ?_
  have s12 := s1.trans s2
  have fr0' : ∀ a ∈ fp0, H a = none := fun a m => same_none s1 (fr0 a m)
  intro hl0 nhl
  have s3 := same_new nhl (.lst [])
  have e3 : upd H2 hl0 (.lst []) hl0 = some (.lst []) := upd_same
  have nhl' := same_none s12 nhl
  have nfl : hl0 ∉ fp0 := fun m => by
    obtain ⟨u, e⟩ := o0.there _ m
    rw [nhl] at e
    cases e
  have o1 := o0.same s3
  have s13 := s12.trans s3
  generalize upd H2 hl0 (.lst []) = H3 at s3 e3 o1 s13 ⊢
  refine ⟨by decide, ?_⟩
  intro tp ntp
  have s4 := same_new ntp (.tup [.ty "list", .ty "dict"])
  have e4 : upd H3 tp (.tup [.ty "list", .ty "dict"]) tp = some (.tup [.ty "list", .ty "dict"]) := upd_same
  have o2 := o1.same s4
  have s14 := s13.trans s4
  have e34 := s4 _ _ e3
  generalize upd H3 tp (.tup [.ty "list", .ty "dict"]) = H4 at s4 e4 o2 s14 e34 ⊢
  obtain ⟨b, hb, hbt⟩ := isi_ld o2 e4
  -- the state before the loop
  have loop : ∀ (H5 : Hp) (hs5 : List V), Same H H5 → Own H5 dv d0 fp0 → H5 hl0 = some (.lst hs5) → hs5.length ≤ 1 → (∀ h ∈ hs5, Hold H5 fp0 h) →
      forA (tFor (iRng2 (tCons (tC (.int 1)) (tCons (tTB rMax (tCons (tC (.int 3)) (tCons (tTB rMin (tCons (tC (.int 24)) (tCons (tOp (rBin .Sub) (tTB rLenA (tCons (tVar 0) tNil)) (tVar 1)) tNil))) tNil))) tNil))) (gName 8) (tSeq (tAsg (tCallS (run (pg.tb K) (n + 3) d_law_cell) (WE (fun cls dd _ H' => E cls dd H')) (tCons (tVar 0) (tCons (tOp (rBin .Add) (tVar 1) (tVar 8)) tNil))) (gName 9)) (tIfS (tTest (tOp (rCmp K .NotEq) (tVar 6) (tLst tNil))) (tSeq (tAsg (tOp rIx (tVar 6) (tOp (rBin .Sub) (tOp (rBin .Sub) (tTB rLenA (tCons (tVar 6) tNil)) (tC (.int 1))) (tOp (rBin .Mod) (tOp (rBin .Mod) (tCallS (run (pg.tb K) (n + 3) d_law_mix) (WE (fun cls dd _ H' => E cls dd H')) (tCons (tVar 9) (tCons (tC (.int 0)) tNil))) (tTB rLenA (tCons (tVar 6) tNil))) (tOp rIx (tLst (tCons (tC (.int 40)) (tCons (tC (.int 2)) tNil))) (tOp (rBin .FloorDiv) (tVar 4) (tC (.int 16))))))) (gTup K 2 (gCons (gName 10) (gCons (gName 11) gNil)))) (tSeq (tAsg (tCallS (run (pg.tb K) (n + 3) d_law_part) (WE (fun cls dd _ H' => E cls dd H')) (tCons (tVar 9) (tCons (tVar 11) (tCons (tVar 4) tNil)))) (gName 12)) (tIfS (RD.tTru (tCallS (run (pg.tb K) (n + 3) d_law_laid) (WE (fun cls dd _ H' => E cls dd H')) (tCons (tVar 10) (tCons (tVar 12) (tCons (tVar 2) (tCons (tCallS (run (pg.tb K) (n + 3) d_law_mix) (WE (fun cls dd _ H' => E cls dd H')) (tCons (tVar 9) (tCons (tC (.int 1)) tNil))) tNil)))))) (tSeq (tAsg (tOp (rBin .Add) (tVar 7) (tC (.int 1))) (gName 7)) (tIfS (RD.tTru (tTB (rIsH K none) (tCons (tVar 12) (tCons (tTup (tCons (tC (.ty "list")) (tCons (tC (.ty "dict")) tNil))) tNil)))) (tDrop (tMt "append" (tVar 6) (tCons (tTup (tCons (tVar 12) (tCons (tOp (rBin .Add) (tVar 11) (tC (.int 1))) tNil))) tNil))) tNext)) tNext))) tNext)))
        { nx := fun σ' H' => tRet (tTup (tCons (tVar 5) (tCons (tVar 7) tNil))) { nx := fun _ H' => Q .non H', rt := Q } σ' H', rt := Q } [some (.ref sa), some (.int 4), some (.ref na), some (.int c0), some (.int most), some dv, some (.ref hl0), some (.int 1), none, none, none, none, none] H5 := by
    intro H5 hs5 s5 o5 e5 hl5 hh5
    refine forA_r2 ?_
    have hsa5 := same_vw s5 hs
    simp [len_lst hsa5]
    refine ⟨by omega, ?_⟩
    refine forW_by jr (PvD H (fun mn => [some (.ref sa), some (.int 4), some (.ref na), some (.int c0), some (.int most), some dv, some (.ref hl0), some (.int mn)]) dv hl0) (fun _ _ _ _ => trivial) ⟨1, _, _, _, _, _, d0, fp0, hs5, rfl, s5, o5, nd0, p0, Nat.le_refl _, fr0', e5, nfl, hl5, hh5⟩ ?_ ?_
    · rintro i x σ' H6 hx ⟨mn, x8, x9, x10, x11, x12, d, fp, hs, rfl, g6⟩
      obtain ⟨hi, rfl⟩ := rngV_get hx
      have hi : i < 24 := by omega
      simp
      refine law_cell_ok (n + 2) H6 sa ns _ _ _ (same_vw g6.s (by assumption)) (by omega) (by omega) fun c cc0 cc1 => ?_
      intro p np
      have s7 := same_new np (.lst [])
      have vp : vw (upd H6 p (.lst [])) p = some (.lst []) := vw_lst upd_same
      have g7 := g6.same s7
      generalize upd H6 p (.lst []) = H7 at s7 vp g7 ⊢
      have v7 := vw_lst g7.e
      cases hs with
      | nil =>
        refine neI (.flatL v7 vp rfl rfl rfl) ?_
        simp [allEq]
        exact ⟨mn, _, _, _, _, _, d, fp, [], rfl, g7.next⟩
      | cons h0 hs =>
        refine neI (.lens v7 vp (by simp)) ?_
        simp [len_lst v7]
        refine law_mix_ok (n + 2) H7 c 0 _ _ cc0 (by omega) (by decide) (by decide) fun r2 r20 r21 => ?_
        simp [len_lst v7]
        refine ⟨by omega, ?_⟩
        intro p2 np2
        have s8 := same_new np2 (.lst [.int 40, .int 2])
        have em2 : vw (upd H7 p2 (.lst [.int 40, .int 2])) p2 = some (.lst [.int 40, .int 2]) := vw_lst upd_same
        have g8 := g7.same s8
        generalize upd H7 p2 (.lst [.int 40, .int 2]) = H8 at s8 em2 g8 ⊢
        have hm2 : ∃ m2 : Int, (m2 = 40 ∨ m2 = 2) ∧ ixV H8 (.ref p2) (.int (most / 16)) = some (.int m2) := by
          rw [ix_lst em2]
          rcases hmost with rfl | rfl
          · exact ⟨40, .inl rfl, rfl⟩
          · exact ⟨2, .inr rfl, rfl⟩
        obtain ⟨m2, hm2, hix⟩ := hm2
        refine ⟨divP (by decide) (by decide), _, hix, ?_⟩
        have bq := emod_b r2 (show (0 : Int) < (hs.length : Int) + 1 by omega)
        generalize r2 % ((hs.length : Int) + 1) = q2 at bq ⊢
        have bi : 0 ≤ (hs.length : Int) - q2 % m2 ∧ (hs.length : Int) - q2 % m2 < ((h0 :: hs).length : Int) := by
          rw [List.length_cons]
          rcases hm2 with rfl | rfl
          · omega
          · omega
        have m2p : 0 < m2 := by omega
        simp [ix_lst (vw_lst g8.e)]
        refine ⟨m2p, ?_⟩
        obtain ⟨hv, hvv, hvm⟩ := atI_lt bi.1 bi.2
        obtain ⟨a, dp, ⟨ta, rfl, e2⟩, ham⟩ := g8.hh hv hvm
        refine ⟨_, hvv, ta, rfl, [.ref a, .int dp], sqT_vw e2, rfl, _, _, rfl, _, _, rfl, rfl, ?_⟩
        refine law_part_ok n H8 c dp most _ _ cc0 (by omega) fun y e H9 fy s9 oy fry py ndy => ?_
        refine law_mix_ok (n + 2) H9 c 1 _ _ cc0 (by omega) (by decide) (by decide) fun r3 r30 r31 => ?_
        have g9 := g8.same s9
        obtain ⟨d1, fp1, pt, l, hp, nd1, hpn⟩ := Own.node (d.depth + 1) (Nat.lt_succ_self _) g9.o g9.nd ham
        have ap : a ∈ fp1 := by
          have := l.own
          cases this with
          | row h r n => exact List.mem_cons_self
          | tab h r n => exact List.mem_cons_self
        have fyp : ∀ b ∈ fy, b ∉ fp := fun b hb hb2 => by
          obtain ⟨u, hu⟩ := g8.o.there b hb2
          rw [fry b hb] at hu
          cases hu
        have fyH : ∀ b ∈ fy, H b = none := fun b hb => same_none g8.s (fry b hb)
        have nhy : hl0 ∉ fy := fun hb => by
          have := fry _ hb
          rw [g8.e] at this
          cases this
        have p1 : parts d1 ≤ 50 := by
          have h1 := hp (.num 0)
          have h2 := parts_pos (pt (.num 0))
          have h3 := g9.m
          have h4 := g9.p
          have h5 : parts (.num 0) = 1 := by rw [parts]
          omega
        refine law_laid_ok (n + 2) H9 a d1 e fp1 fy y na ss r3 _ _ l.own nd1 p1 oy ndy (fun b hb hb2 => fyp b hb (l.inn b hb2)) (same_vw g9.s hn) hss r30 r31 (fun d2 fp2 H10 o2 mem kp hp2 nd2 => ?_) fun H10 s10 => ?_
        · obtain ⟨d3, fp3, g10, hy3⟩ := g9.add l ap hp hpn fyH fyp nhy o2 mem kp (by rw [hp2, py]) nd2
          simp
          refine ⟨by decide, ?_⟩
          intro tp2 ntp2
          have haf : a ∈ fp := ham
          have oy10 : Own H10 y e fy := oy.stay fun b hb => by
            obtain ⟨u, hu⟩ := oy.there b hb
            rw [hu]
            exact kp b u (fun e => fyp b hb (e ▸ haf)) hu
          have s11 := same_new ntp2 (.tup [.ty "list", .ty "dict"])
          have e11 : upd H10 tp2 (.tup [.ty "list", .ty "dict"]) tp2 = some (.tup [.ty "list", .ty "dict"]) := upd_same
          have g11 := g10.same s11
          have oy11 := oy10.same s11
          generalize upd H10 tp2 (.tup [.ty "list", .ty "dict"]) = H11 at s11 e11 g11 oy11 ⊢
          obtain ⟨b, hb, hbt⟩ := isi_ld oy11 e11
          cases b with
          | false => exact .inl ⟨hb, mn + 1, _, _, _, _, _, d3, fp3, _, rfl, g11⟩
          | true =>
            refine .inr ⟨hb, ?_⟩
            obtain ⟨ya, rfl, hya⟩ := hbt rfl
            simp [mtT, g11.e]
            refine ⟨by decide, fun t ht => ?_⟩
            have s12 := same_new ht (.tup [.ref ya, .int (dp + 1)])
            have t12 : TupAt (upd H11 t (.tup [.ref ya, .int (dp + 1)])) (.ref t) [.ref ya, .int (dp + 1)] := tupAt_new
            have g12 := g11.same s12
            generalize upd H11 t (.tup [.ref ya, .int (dp + 1)]) = H12 at s12 t12 g12 ⊢
            simp only [rAppendA, g12.e]
            refine ⟨_, rfl, by have := g12.l; omega, mn + 1, _, _, _, _, _, d3, fp3, (h0 :: hs) ++ [.ref t], rfl, ?_⟩
            refine ⟨same_upd nhl' g12.s, g12.o.stay fun b m => upd_ne fun (e : b = hl0) => g12.nf (e ▸ m), g12.nd, g12.p, g12.m, g12.fr, upd_same, g12.nf, ?_, fun h hm => ?_⟩
            · have := g7.l
              simp at this ⊢
              omega
            · rcases List.mem_append.mp hm with hm | hm
              · obtain ⟨a1, dp1, h1, h2⟩ := g12.hh h hm
                exact ⟨a1, dp1, TupAt.upd g12.e h1, h2⟩
              · rw [List.mem_singleton.mp hm]
                exact ⟨ya, dp + 1, TupAt.upd g12.e t12, hy3 ya hya⟩
        · simp
          exact ⟨mn, _, _, _, _, _, d, fp, _, rfl, (g9.same s10).next⟩
    · rintro σ' H6 ⟨mn, x8, x9, x10, x11, x12, d, fp, hs, rfl, g6⟩
      simp
      refine ⟨by decide, fun t ht => ?_⟩
      have s7 := same_new ht (.tup [dv, .int mn])
      refine q _ _ dv d (g6.s.trans s7) (by rw [g6.p]; exact tupAt_new) (g6.o.rep.same s7) g6.nd (by have h1 := g6.m; rw [rngV_len] at h1; have := g6.p; omega)
  cases b with
  | false => exact .inl ⟨hb, loop H4 [] s14 o2 e34 (by simp) (by simp)⟩
  | true =>
    refine .inr ⟨hb, ?_⟩
    obtain ⟨a, rfl, ham⟩ := hbt rfl
    simp [mtT, e34]
    refine ⟨by decide, fun t ht => ?_⟩
    have s5 := same_new ht (.tup [.ref a, .int 1])
    have e5 := s5 _ _ e34
    have t5 : TupAt (upd H4 t (.tup [.ref a, .int 1])) (.ref t) [.ref a, .int 1] := tupAt_new
    have o5 := o2.same s5
    have s15 := s14.trans s5
    generalize upd H4 t (.tup [.ref a, .int 1]) = H5 at s5 e5 t5 o5 s15 ⊢
    simp [rAppendA, e5]
    refine ⟨by decide, loop _ _ (same_upd nhl' s15) (o5.stay fun b m => upd_ne fun (e : b = hl0) => nfl (e ▸ m)) upd_same (by simp) fun h hm => ?_⟩
    rw [List.mem_singleton.mp hm]
    exact ⟨a, 1, TupAt.upd e5 t5, ham⟩
end K23
end
section
set_option Elab.async false
set_option maxRecDepth 100000
set_option maxHeartbeats 1000000
set_option exponentiation.threshold 500
namespace RD
open PySem PySem.Spec PyProof.Rows L2
theorem sub_len : ∀ {p : List Stp} {d c : Doc}, sub d p = some c → p.length ≤ d.depth
  | [], d, c, h => Nat.zero_le _
  | s :: p, d, c, h => by
    have h' : (kid d s).bind (fun c => sub c p) = some c := h
    cases hk : kid d s with
    | none => rw [hk] at h'; cases h'
    | some e =>
      rw [hk] at h'
      have := kid_depth hk
      have := sub_len (show sub e p = some c from h')
      rw [List.length_cons]
      omega
/-- a value that may be a step -/
def StpV (x : V) : Prop := ∃ s : Stp, x = s.v
theorem StpV.int {i : Int} (h : 0 ≤ i) : StpV (.int i) := by
  obtain ⟨j, rfl⟩ := Int.eq_ofNat_of_zero_le h
  exact ⟨.ix j, rfl⟩
theorem StpV.str {s : Str} : StpV (.str s) := ⟨.nm s, rfl⟩
end RD
namespace K23
open PySem PySem.Spec PyProof.Rows L2 RD
variable {K : PySem.W.Frag}
theorem law_more_ok (n : Nat) (H : Hp) (v pv : V) (d : Doc) (p : List Stp) (c : Int) (na : Addr) (ss : List Str) (Q : VK) (E : XK) (hp : PathAt H pv p) (r : Rep H v d) (w : d.wf) (hd : d.depth ≤ 100) (hs : (sub d p).isSome = true) (hn : vw H na = some (.lst (ss.map V.str))) (hss : ss.length = 6) (hc : 0 ≤ c) (hc2 : c < 2 ^ 310)
    (q : ∀ v' H' p2, Same H H' → PathAt H' v' p2 → Q v' H') : run (pg.tb K) (n + 2) d_law_more [v, pv, .ref na, .int c] H Q E := by
  have sL : sizeLine = 16777216 := by decide
  obtain ⟨d1, hs⟩ := Option.isSome_iff_exists.mp hs
  have hpl := sub_len hs
  obtain ⟨x, hx, rx⟩ := r.walk hs
  have w1 := sub_wf w hs
  rw [r_law_more]
  refine ⟨rfl, ?_⟩
  simp only [L2.start]
  simp
  refine law_at_ok n H v pv x p _ _ hp hx ?_
  -- behind the count
  have rest : ∀ m : Int, 0 ≤ m → m ≤ 1000 → run (pg.tb K) (n + 1) d_law_mix [.int c, .int 5] H (fun x_1 H1 => rBin .Mod x_1 (.int 6) H1 fun y H2 => ∃ v_1, ixV H2 (.ref na) y = some v_1 ∧ (tSeq (tAsg (tOp rIx (tLst (tCons (tC (.int 1000)) (tCons (tOp (rBin .Add) (tVar 5) (tC (.int 7))) (tCons (tOp (rBin .Pow) (tC (.int 10)) (tC (.int 30))) (tCons (tOp (rBin .Sub) (tOp (rBin .Pow) (tC (.int 10)) (tC (.int 60))) (tC (.int 1))) tNil))))) (tOp (rBin .Mod) (tOp (rBin .FloorDiv) (tVar 6) (tC (.int 6))) (tC (.int 4)))) (gName 8)) (tSeq (tAsg (tOp rIx (tLst (tCons (tVar 5) (tCons (tOp (rBin .Add) (tVar 5) (tC (.int 1))) (tCons (tTB rMax (tCons (tC (.int 0)) (tCons (tOp (rBin .Sub) (tVar 5) (tC (.int 1))) tNil))) (tCons (tVar 7) (tCons (tVar 7) (tCons (tOp (rBin .Mod) (tOp (rBin .FloorDiv) (tVar 6) (tC (.int 6))) (tC (.int 9))) (tCons (tVar 8) tNil)))))))) (tOp (rBin .Mod) (tCallS (run (pg.tb K) (n + 1) d_law_mix) (WE (fun cls dd _ H' => E cls dd H')) (tCons (tVar 3) (tCons (tC (.int 4)) tNil))) (tC (.int 7)))) (gName 9)) (tSeq (tIfS (tTest (tOp (rCmp K .Eq) (tOp (rBin .Mod) (tOp (rBin .FloorDiv) (tCallS (run (pg.tb K) (n + 1) d_law_mix) (WE (fun cls dd _ H' => E cls dd H')) (tCons (tVar 3) (tCons (tC (.int 4)) tNil))) (tC (.int 7))) (tC (.int 3))) (tC (.int 0)))) (tRet (tOp (rBin .Add) (tVar 1) (tTup (tCons (tVar 9) (tCons (tOp rIx (tLst (tCons (tC (.int 0)) (tCons (tVar 7) (tCons (tVar 5) tNil)))) (tOp (rBin .Mod) (tOp (rBin .FloorDiv) (tVar 6) (tC (.int 216))) (tC (.int 3)))) tNil))))) tNext) (tRet (tOp (rBin .Add) (tVar 1) (tTup (tCons (tVar 9) tNil))))))) { nx := fun _ H' => Q .non H', rt := Q } [some v, some pv, some (.ref na), some (.int c), some x, some (.int m), some x_1, some v_1, none, none] H2) fun cls d H => E cls d H := by
    intro m m0 m1
    refine law_mix_ok n H c 5 _ _ hc hc2 (by decide) (by decide) fun r5 r50 r51 => ?_
    have b6 := emod_b r5 (show (0 : Int) < 6 by decide)
    simp [ix_lst hn]
    obtain ⟨nv, hnv, hnm⟩ := atI_lt (xs := ss.map V.str) b6.1 (by rw [List.length_map, hss]; exact b6.2)
    obtain ⟨nm, _, rfl⟩ := List.mem_map.mp hnm
    refine ⟨_, hnv, pow10 30 (by decide) (by decide), pow10 60 (by decide) (by decide), by decide, ?_⟩
    intro p1 np1
    have s1 := same_new np1 (.lst [.int 1000, .int (m + 7), .int 1000000000000000000000000000000, .int 999999999999999999999999999999999999999999999999999999999999])
    have e1 : vw (upd H p1 (.lst [.int 1000, .int (m + 7), .int 1000000000000000000000000000000, .int 999999999999999999999999999999999999999999999999999999999999])) p1 = some (.lst [.int 1000, .int (m + 7), .int 1000000000000000000000000000000, .int 999999999999999999999999999999999999999999999999999999999999]) := vw_lst upd_same
    generalize upd H p1 (.lst [.int 1000, .int (m + 7), .int 1000000000000000000000000000000, .int 999999999999999999999999999999999999999999999999999999999999]) = H1 at s1 e1 ⊢
    refine ⟨divP (by decide) (by decide), ?_⟩
    have b4 := emod_b (r5 / 6) (show (0 : Int) < 4 by decide)
    obtain ⟨fv, hfv, hfm⟩ := atI_lt (xs := [V.int 1000, .int (m + 7), .int 1000000000000000000000000000000, .int 999999999999999999999999999999999999999999999999999999999999]) b4.1 (by simpa using b4.2)
    have hf : StpV fv := by
      simp at hfm
      rcases hfm with rfl | rfl | rfl | rfl
      · exact .int (by decide)
      · exact .int (by omega)
      · exact .int (by decide)
      · exact .int (by decide)
    rw [ix_lst e1]
    refine ⟨fv, hfv, divP (by decide) (by decide), by decide, ?_⟩
    have b9 := emod_b (r5 / 6) (show (0 : Int) < 9 by decide)
    generalize r5 / 6 % 9 = q9 at b9 ⊢
    intro p2 np2
    have s2 := same_new np2 (.lst [.int m, .int (m + 1), .int (max 0 (m - 1)), .str nm, .str nm, .int q9, fv])
    have e2 : vw (upd H1 p2 (.lst [.int m, .int (m + 1), .int (max 0 (m - 1)), .str nm, .str nm, .int q9, fv])) p2 = some (.lst [.int m, .int (m + 1), .int (max 0 (m - 1)), .str nm, .str nm, .int q9, fv]) := vw_lst upd_same
    generalize upd H1 p2 (.lst [.int m, .int (m + 1), .int (max 0 (m - 1)), .str nm, .str nm, .int q9, fv]) = H2 at s2 e2 ⊢
    refine law_mix_ok n H2 c 4 _ _ hc hc2 (by decide) (by decide) fun r4 r40 r41 => ?_
    have b7 := emod_b r4 (show (0 : Int) < 7 by decide)
    obtain ⟨sv, hsv, hsm⟩ := atI_lt (xs := [V.int m, .int (m + 1), .int (max 0 (m - 1)), .str nm, .str nm, .int q9, fv]) b7.1 (by simpa using b7.2)
    have hst : StpV sv := by
      simp at hsm
      rcases hsm with rfl | rfl | rfl | rfl | rfl | rfl
      · exact .int m0
      · exact .int (by omega)
      · exact .int (by omega)
      · exact .str
      · exact .int b9.1
      · exact hf
    simp [ix_lst e2]
    refine ⟨sv, hsv, ?_⟩
    obtain ⟨st, rfl⟩ := hst
    have s12 := s1.trans s2
    refine law_mix_ok n H2 c 4 _ _ hc hc2 (by decide) (by decide) fun r6 r60 r61 => ?_
    simp
    refine ⟨divP (by decide) (by decide), ?_⟩
    have fin : ∀ (st2 : List Stp) (H3 : Hp), Same H H3 → ∀ t, H3 t = none → st2.length ≤ 2 → rBin .Add pv (.ref t) (upd H3 t (.tup (st2.map Stp.v))) Q := by
      intro st2 H3 s3 t ht hl
      have s4 := s3.trans (same_new ht (.tup (st2.map Stp.v)))
      obtain ⟨b, rfl, hb⟩ := hp.same s4
      rw [s_bin_ref_add, hb]
      refine ⟨st2.map Stp.v, vw_tup upd_same, by simp; omega, fun v' H' s5 t5 => q v' H' (p ++ st2) (s4.trans s5) ?_⟩
      unfold PathAt
      rw [List.map_append]
      exact t5
    by_cases h3 : r6 / 7 % 3 = 0
    · refine .inr ⟨h3, by decide, fun p3 np3 => ?_⟩
      have s3 := s12.trans (same_new np3 (.lst [.int 0, .str nm, .int m]))
      have e3 : vw (upd H2 p3 (.lst [.int 0, .str nm, .int m])) p3 = some (.lst [.int 0, .str nm, .int m]) := vw_lst upd_same
      generalize upd H2 p3 (.lst [.int 0, .str nm, .int m]) = H3 at s3 e3 ⊢
      refine ⟨divP (by decide) (by decide), ?_⟩
      have b3 := emod_b (r5 / 216) (show (0 : Int) < 3 by decide)
      obtain ⟨lv, hlv, hlm⟩ := atI_lt (xs := [V.int 0, .str nm, .int m]) b3.1 (by simpa using b3.2)
      have hls : StpV lv := by
        simp at hlm
        rcases hlm with rfl | rfl | rfl
        · exact .int (by decide)
        · exact .str
        · exact .int m0
      obtain ⟨ls, rfl⟩ := hls
      rw [ix_lst e3]
      exact ⟨_, hlv, by decide, fun t ht => fin [st, ls] H3 s3 t ht (by simp)⟩
    · exact .inl ⟨h3, by decide, fun t ht => fin [st] H2 s12 t ht (by simp)⟩
  cases rx with
  | num i => simpa using rest 0 (by decide) (by decide)
  | txt i => simpa using rest 0 (by decide) (by decide)
  | row h r =>
    have hl := r.length
    rw [Doc.wf] at w1
    simp [isi_lst h, len_lst h]
    simpa using rest _ (Int.natCast_nonneg _) (by omega)
  | tab h r =>
    simp [isi_dK h]
    simpa using rest 0 (by decide) (by decide)
end K23
end
section
set_option Elab.async false
set_option maxRecDepth 100000
set_option maxHeartbeats 1000000
set_option exponentiation.threshold 500
namespace K23
open PySem PySem.Spec PyProof.Rows L2 RD
variable {K : PySem.W.Frag}
theorem law_ok (F : NF K) (n : Nat) (H : Hp) (sa : Addr) (ns : List Int) (Q : VK) (E : XK) (hs : vw H sa = some (.lst (ns.map V.int))) (hl : ns.length ≤ 63) (q : ∀ H', Q (.bl true) H') : run (pg.tb K) (n + 81) d_law [.ref sa] H Q E := by
  have sL : sizeLine = 16777216 := by decide
  have z310 : (2 : Int) ^ 300 < 2 ^ 310 - 1000000 := by decide
  rw [r_law]
  refine ⟨rfl, ?_⟩
  simp only [L2.start]
  simp
  refine law_cell_ok (n + 79) H sa ns 0 _ _ hs (by decide) (by decide) fun c0 c00 c01 => ?_
  refine law_names_ok (n + 78) H c0 _ _ c00 (by omega) fun H1 na ss s1 hna e1 hss => ?_
  have hn1 := vw_lst e1
  refine law_doc_ok (n + 76) H1 sa na ns ss _ _ (same_vw s1 hs) hl hn1 hss fun tv H2 dv d s2 tt rd ndd hpd => ?_
  obtain ⟨ta, rfl, hta⟩ := tt
  have hdep := depth_cnt d
  have wd := wf_cnt d ndd (by omega)
  have s12 := s1.trans s2
  refine ⟨ta, rfl, [dv, .int (parts d : Nat)], sqT_vw hta, rfl, _, _, rfl, _, _, rfl, rfl, ?_⟩
  refine law_cell_ok (n + 79) H2 sa ns 1 _ _ (same_vw s12 hs) (by decide) (by decide) fun c1 c10 c11 => ?_
  intro t0 nt0
  have s3 := same_new nt0 (.tup [])
  have tp0 : PathAt (upd H2 t0 (.tup [])) (.ref t0) [] := tupAt_new
  have rd3 := rd.same s3
  have s13 := s12.trans s3
  have hn3 := same_vw (s2.trans s3) hn1
  generalize upd H2 t0 (.tup []) = H3 at s3 tp0 rd3 s13 hn3 ⊢
  refine law_paths_ok (n + 80) d (by omega) H3 dv (.ref t0) [] _ _ rd3 wd (by omega) tp0 (by simp; omega) fun H4 pa xs s4 _ e4 hxl hxg => ?_
  have rd4 := rd3.same s4
  have hn4 := same_vw s4 hn3
  refine law_value_ok (n + 77) H4 c1 na ss _ _ c10 (by omega) hn4 hss fun vx H5 s5 gv => ?_
  have e5 := s5 _ _ e4
  have rd5 := rd4.same s5
  have hn5 := same_vw s5 hn4
  have hx5 : ∀ x ∈ xs, ∃ p, PathAt H5 x p ∧ (sub d p).isSome = true := fun x hx => by
    obtain ⟨p, h1, h2⟩ := hxg x hx
    exact ⟨p, h1.same s5, h2⟩
  refine law_mix_ok (n + 79) H5 c1 7 _ _ c10 (by omega) (by decide) (by decide) fun r7 r70 r71 => ?_
  simp
  have hpos := parts_pos d
  -- behind the value
  have rest : ∀ (vv : V) (e : Doc) (H6 : Hp), Same H5 H6 → Rep H6 vv e → e.wf → e.depth ≤ 30 →
      forA (tFor (iRng1 (tCons (tTB rLenA (tCons (tVar 5) tNil)) tNil)) (gName 7) (tSeq (tIfS (tNot (RD.tTru (tCallS (run (pg.tb K) (n + 80) d_law_right) (WE (fun cls dd _ H' => E cls dd H')) (tCons (tVar 2) (tCons (tOp rIx (tVar 5) (tVar 7)) (tCons (tVar 6) tNil)))))) (tRet (tC (.bl false))) tNext) (tIfS (tNot (RD.tTru (tCallS (run (pg.tb K) (n + 80) d_law_right) (WE (fun cls dd _ H' => E cls dd H')) (tCons (tVar 2) (tCons (tCallS (run (pg.tb K) (n + 80) d_law_more) (WE (fun cls dd _ H' => E cls dd H')) (tCons (tVar 2) (tCons (tOp rIx (tVar 5) (tVar 7)) (tCons (tVar 1) (tCons (tOp (rBin .Add) (tVar 4) (tOp (rBin .Mult) (tC (.int 7)) (tVar 7))) tNil))))) (tCons (tVar 6) tNil)))))) (tRet (tC (.bl false))) tNext)))
        { nx := fun σ' H' => tRet (tOp (rCmp K .Eq) (tTB rLenA (tCons (tVar 5) tNil)) (tVar 3)) { nx := fun _ H' => Q .non H', rt := Q } σ' H', rt := Q } [some (.ref sa), some (.ref na), some dv, some (.int (parts d : Nat)), some (.int c1), some (.ref pa), some vv, none] H6 := by
    intro vv e H6 s6 re we he
    have e6 := s6 _ _ e5
    refine forA_rng1 ?_
    simp [len_lst (vw_lst e6)]
    refine ⟨by omega, forW_by jr (fun i σ' H' => (∃ x, σ' = [some (.ref sa), some (.ref na), some dv, some (.int (parts d : Nat)), some (.int c1), some (.ref pa), some vv, x]) ∧ Same H6 H') (fun _ _ _ _ => trivial) ⟨⟨_, rfl⟩, Same.refl _⟩ ?_ ?_⟩
    · rintro i x σ' H7 hx ⟨⟨x0, rfl⟩, s7⟩
      obtain ⟨hi, rfl⟩ := rngV_get hx
      have hi : i < xs.length := by simpa using hi
      have s67 := s6.trans s7
      have e7 := s67 _ _ e5
      obtain ⟨p, hp, hsub⟩ := hx5 xs[i] (List.getElem_mem hi)
      have hix : ∀ H8, Same H7 H8 → ixV H8 (.ref pa) (.int (i : Nat)) = some xs[i] := fun H8 s8 => by
        rw [ix_lst (vw_lst (s8 _ _ e7))]
        exact atI_nat (List.getElem?_eq_getElem hi)
      simp
      refine ⟨_, hix H7 (Same.refl _), ?_⟩
      refine law_right_ok F (n + 72) H7 dv xs[i] vv d e p _ _ (hp.same s67) (rd5.same s67) (re.same s7) wd we (by omega) fun H8 s8 => ?_
      have s678 := s67.trans s8
      simp
      refine ⟨_, hix H8 s8, mulP (by decide) (by decide) (by omega) (Int.lt_of_lt_of_le (b := 1000) (by omega) (by decide)), ?_⟩
      refine law_more_ok (n + 78) H8 dv xs[i] d p _ na ss _ _ (hp.same s678) (rd5.same s678) wd (by omega) hsub (same_vw s678 hn5) hss (by omega) (by omega) fun v2 H9 p2 s9 hp2 => ?_
      have s79 := s8.trans s9
      refine law_right_ok F (n + 72) H9 dv v2 vv d e p2 _ _ hp2 (rd5.same (s67.trans s79)) (re.same (s7.trans s79)) wd we (by omega) fun H10 s10 => ?_
      simp
      exact s7.trans (s79.trans s10)
    · rintro σ' H7 ⟨⟨x0, rfl⟩, s7⟩
      have e7 := s7 _ _ e6
      simp [len_lst (vw_lst e7), hxl]
      exact q _
  by_cases h7 : r7 % 3 = 0
  · refine .inr ⟨h7, ?_⟩
    refine law_mix_ok (n + 79) H5 c1 6 _ _ c10 (by omega) (by decide) (by decide) fun r6 r60 r61 => ?_
    have bi := emod_b r6 (show (0 : Int) < (xs.length : Int) by omega)
    simp [len_lst (vw_lst e5), ix_lst (vw_lst e5)]
    refine ⟨by omega, ?_⟩
    obtain ⟨x, hx, hm⟩ := atI_lt bi.1 bi.2
    obtain ⟨p, hp, hsub⟩ := hx5 x hm
    obtain ⟨e, he⟩ := Option.isSome_iff_exists.mp hsub
    obtain ⟨y, hy, ry⟩ := rd5.walk he
    refine ⟨x, hx, ?_⟩
    refine law_at_ok (n + 79) H5 dv x y p _ _ hp hy ?_
    exact rest y e H5 (Same.refl _) ry (sub_wf wd he) (by have := sub_depth he; omega)
  · refine .inl ⟨h7, ?_⟩
    obtain ⟨e, h1, h2, h3⟩ := gv
    exact rest vx e H5 (Same.refl _) h1 h2 (by omega)
end K23
end
section
set_option Elab.async false
set_option maxRecDepth 100000
set_option maxHeartbeats 1000000
namespace RD
open PySem PySem.Spec PyProof.Rows L2
/-- no list stands in what the head tells of -/
def noList (K : PySem.W.Frag) : Bool := K.all fun p => match p.2.cls with
  | .type t => t != "list"
  | _ => true
theorem noList_ok {K : PySem.W.Frag} (h : noList K = true) {a : Addr} {o : Obj} (e : K.lookup a = some o) : o.cls ≠ .type "list" := by
  intro hc
  have hm : (a, o) ∈ K := by
    clear h
    induction K with
    | nil => cases e
    | cons p r ih =>
      obtain ⟨b, u⟩ := p
      rw [List.lookup_cons] at e
      split at e
      · rename_i q
        cases e
        rw [beq_iff_eq.mp q]
        exact List.mem_cons_self
      · exact List.mem_cons_of_mem _ (ih e)
  have := List.all_eq_true.mp h _ hm
  simp [hc] at this
theorem vw_of_sqL {K : PySem.W.Frag} (h : noList K = true) {H : Hp} {a : Addr} {xs : List V} (s : SqL K H a xs) : vw H a = some (.lst xs) := by
  rcases s with e | ⟨o, its, n, e, hc, _⟩
  · rcases e with e | ⟨o, e⟩
    · exact vw_lst e
    · unfold vw
      rw [e]
  · exact absurd hc (noList_ok h e)
theorem walkE {l : PySem.W.OpenLaw} {n N : Nat} {q : Program} {loose : List Str} {XP : (Str → Option Value) → Heap → Prop} {YP : World → Heap → Prop} {d : DefRec} {x : Str} {g : Pg} {ex : PySem.W.Frag → Bool} {dl : Df}
    (hn : l.most = some n) (hn2 : n ≤ sizeLine) (hdf : d.params.defaults = []) (hr : Room (N + 1) callerA) (hg : PgOk g) (hdl : (d.name, dl) ∈ g.defs) (hps : dl.ps = [x])
    (hY : ∀ (w : World) (h : Heap), YP w h → ∃ K : PySem.W.Frag, K.In h ∧ SaysE g.fa g.fn ex K) (hex : ∀ K, ex K = true → noList K = true)
    (hsp : ∀ (K : PySem.W.Frag) (H : Hp) (a : Addr) (ns : List Int), ex K = true → ns.length ≤ n → vw H a = some (.lst (ns.map V.int)) → run (g.tb K) (N + 1) dl [.ref a] H (fun v _ => v = .bl true) fun _ _ _ => False) :
    PySem.W.WalkO q loose XP YP l.row.toRowW d [] (fun f vs => PySem.call f vs) := by
  refine Att.attach_call hn hdf fun w s₀ s₁ mg mb fa o pm cd doc a vs ns G Y ho hd hcd hmg hobj hints hlen hgn => ?_
  obtain ⟨K, KX, S⟩ := hY w _ Y
  have hT : TOk mg (g.tb K) := tok hg KX G.T.g S
  obtain ⟨ok, f, fd, hf, F⟩ := hT.defs _ hdl
  have e : f = fa := by
    rw [hmg] at hf
    cases hf
    rfl
  subst e
  refine law_call (fd := fd) (x := x) (sp := run (g.tb K) (N + 1) dl) (CX := L2.CX l.prog w) KX G.T.g G.T.b G.T.builtins G.T.nolimit hgn hobj hints (Nat.le_trans hlen hn2) hr (fun base _ _ => ?_) ?_ (fun H hO hS => hsp K H a ns S.x hlen (vw_of_sqL (hex K S.x) hS)) fun H e s' hc => ?_
  · have := fn_ok (P := l.prog) (w := w) (base := base) (lv_ok (P := l.prog) (w := w) (base := base) hT N) ok F
    rw [hps] at this
    exact this
  · have hb := F.bindsA ok.bind
    rw [hps] at hb
    exact fun s u => hb s [u] rfl
  · obtain ⟨_, _, _, _, _, _, _, _, _, _, _, _, hE⟩ := hc
    exact hE
end RD
end
section
set_option Elab.async false
set_option maxRecDepth 100000
set_option maxHeartbeats 0
namespace K23
open PySem PySem.Spec PyProof.Rows L2 RD
abbrev R : PySem.W.OpenRow := PySem.W.OpenLaw.row PySem.Challenge.rw_patchbough_k23_change
def exx (K : PySem.W.Frag) : Bool := ex K && noList K
abbrev hk : PySem.W.Hook := hookE 4 pg.fa pg.fn exx
def ob (s : PySem.W.SharedT) : He.AlD := obsEG 4 pg.fa pg.fn exx (HandSHeadRun.getT s)
theorem ob_eq (s : PySem.W.SharedT) : ob s = hk.obs s.abs := obsEG_eq (HandSHeadRun.getT_eq s)
def others : List Str := (["copy_of", "goes_into", "has_part", "found_at", "holder_at", "changed_at", "_law_cell", "_law_mix", "_law_names", "_law_leaf", "_law_part", "_law_laid", "_law_doc", "_law_copy", "_law_alike", "_law_paths", "_law_at", "_law_stands", "_law_value", "_law_changed", "_law_no_part", "_law_more", "_law_spoil", "_law_asked", "_law_right", "BoughError", "NoPart", "NoRow", "NoFit", "NoPatch"] : List Str) ++ (["Clash", "NoText", "NoDeed"] : List Str)
theorem runH (w : World) : HandSHeadRun.RunEq R (PySem.W.view R.prog [38]) hk ob 4000 others w := by
  intro os
  kernel_rfl
end K23
open PySem PySem.W PySem.Calls PyProof.Rows
theorem PySem.Challenge.cw_patchbough_k23_change_holds : PySem.Challenge.rw_patchbough_k23_change.Holds := by
  w_on; o_law
  refine HandSHeadRun.head_any (r := OpenLaw.row PySem.Challenge.rw_patchbough_k23_change) (q := view (OpenLaw.row PySem.Challenge.rw_patchbough_k23_change).prog [38]) (H := K23.hk) (ob := K23.ob) (M := 4000) (loose := K23.others) (d := HandSHeadRun.topDef (OpenLaw.row PySem.Challenge.rw_patchbough_k23_change).prog 38) (kwd := []) K23.ob_eq
    (by kernel_rfl) (fun s => by kernel_rfl) K23.runH (by kernel_rfl) (by kernel_rfl) (by kernel_rfl) (by rfl) (by first | assumption | decide +kernel) (by decide +kernel) ⟨rfl, rfl, rfl, rfl, rfl, by decide +kernel⟩ ?hw ?hc
  case hw => w_witness2
  case hc =>
    refine RD.walkE (n := 63) (N := 80) (x := "script") (g := K23.pg) (ex := K23.exx) (dl := K23.d_law) rfl (by decide) (by rfl) ?_ K23.pg_ok ?_ rfl (fun w h y => y) (fun K h => (Bool.and_eq_true_iff.mp h).2) ?_
    · exact ⟨by kernel_rfl, by decide +kernel, by decide +kernel⟩
    · exact List.mem_of_getElem? (i := K23.pg.defs.length - 1) (by kernel_rfl)
    · intro K H a ns hex hl hs
      exact K23.law_ok (K23.nf_of (Bool.and_eq_true_iff.mp hex).1) 0 H a ns _ _ hs hl fun _ => rfl
end
