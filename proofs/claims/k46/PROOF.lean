import PyProof.Rows.All
import Wide.All
import OpenK.AllK
import Wide.FinOn
import KE.KStateDown
import Lean
import HandS.Base
import HandS.Call
import HandS.List
import HandS.Comp
import HandS.Ends
import HandS.Dict
import HandS.Iter
import HandS.Text
import HandS.More
import HandS.Exc
import HandS.Words
import HandS.WordsList
import HandS.Defaults
import HandS.Wide
import HandS.TupAny
import HandS.Flow
import HandS.Style
import HandS.Conv
import HandS.IsInst
import HandS.Head0
import HandS.Head1
import HandS.Head2
import HandS.HeadEnd
import HandS.HeadHook1
import HandS.HeadHook2
import HandS.HeadHook3
import HandS.Codes
import HandS.HeadHook4
import PySem.Challenge.RW_lazywebs_k46_cells_named
set_option Elab.async false
set_option linter.all false
set_option maxRecDepth 100000
set_option maxHeartbeats 4000000
namespace Lz
open PySem PySem.Spec PyProof.Rows L2
/-! ### heaps by what is known of them -/
/-- a new object o at p -/
def New (H : Hp) (o : HO) (R : Addr → Hp → Prop) : Prop := ∀ p H', H p = none → H' p = some o → Same H H' → R p H'
/-- but for a all is as it was -/
def Chg (a : Addr) (H H' : Hp) : Prop := ∀ b o, b ≠ a → H b = some o → H' b = some o
/-- the object at a is now o -/
def Put (H : Hp) (a : Addr) (o : HO) (R : Hp → Prop) : Prop := ∀ H', H' a = some o → Chg a H H' → R H'
theorem same_upd {H : Hp} {p : Addr} {o : HO} (h : H p = none) : Same H (upd H p o) := fun b u e => by rw [upd_ne (ne_of_none e h)]; exact e
theorem New.at {H : Hp} {o : HO} {R : Addr → Hp → Prop} (h : New H o R) : ∀ p, H p = none → R p (upd H p o) := fun p hp => h p _ hp upd_same (same_upd hp)
theorem Put.at {H : Hp} {a : Addr} {o : HO} {R : Hp → Prop} (h : Put H a o R) : R (upd H a o) := h _ upd_same fun b u n e => by rw [upd_ne n]; exact e
section
variable {X : Cx}
theorem opr_imp {f : Value → Value → Sem Value} {r r' : R2} (h : OpR X f r) (i : ∀ x y H Q, r' x y H Q → r x y H Q) : OpR X f r' := fun pins s σ H x y v u Q I rx ry q => h pins s σ H x y v u Q I rx ry (i _ _ _ _ q)
theorem callr_imp {f : Value} {r r' : List V → Hp → VK → Prop} (h : CallR X f r) (i : ∀ xs H Q, r' xs H Q → r xs H Q) : CallR X f r' := fun pins s σ H xs us Q I rs q => h pins s σ H xs us Q I rs (i _ _ _ q)
theorem mtr_imp {id : String} {r r' : V → List V → Hp → VK → Prop} (h : MtR X id r) (i : ∀ x xs H Q, r' x xs H Q → r x xs H Q) : MtR X id r' := fun pins s σ H x xs v us Q I rx rs q => h pins s σ H x xs v us Q I rx rs (i _ _ _ _ q)
theorem slr_imp {r r' : V → Option Int → Option Int → Hp → VK → Prop} (h : SlR X r) (i : ∀ x lo hi H Q, r' x lo hi H Q → r x lo hi H Q) : SlR X r' := fun pins s σ H x v vl vu lo hi sl Q I rx hs pl pu q => h pins s σ H x v vl vu lo hi sl Q I rx hs pl pu (i _ _ _ _ _ q)
/-- a reading's upward closure -/
def clA (t : TA) : TA := fun σ H Q => ∃ Q0, t σ H Q0 ∧ ∀ xs H1, Q0 xs H1 → Q xs H1
def clE (t : TE) : TE := fun σ H Q => ∃ Q0, t σ H Q0 ∧ ∀ x H1, Q0 x H1 → Q x H1
theorem pa_cl {es : List Expr} {t : TA} (h : PA X es t) : PA X es (clA t) := ⟨fun pos pins s σ H Q I ⟨Q0, q, i⟩ => thn (h.run pos pins s σ H Q0 I q) fun us s' ⟨vs, H', I', r, q'⟩ => ⟨vs, H', I', r, i _ _ q'⟩⟩
theorem pe_cl {e : Expr} {t : TE} (h : PE X e t) : PE X e (clE t) := ⟨fun pins s σ H Q I ⟨Q0, q, i⟩ => thn (h.run pins s σ H Q0 I q) fun us s' ⟨vs, H', I', r, q'⟩ => ⟨vs, H', I', r, i _ _ q'⟩⟩
/-- displays -/
def tTupN (t : TA) : TE := fun σ H Q => t σ H fun xs H1 => xs.length ≤ sizeLine ∧ New H1 (.tup xs) fun p H2 => Q (.ref p) H2
def tLstN (t : TA) : TE := fun σ H Q => t σ H fun xs H1 => xs.length ≤ sizeLine ∧ New H1 (.lst xs) fun p H2 => Q (.ref p) H2
theorem pe_tupN {es : List Expr} {t : TA} {x1 pos} (h : PA X es t) : PE X (.Tuple es x1 pos) (tTupN t) :=
  ⟨fun pins s σ H Q I q => (pe_tup (pa_cl h)).run pins s σ H Q I ⟨_, q, fun xs H1 ⟨hl, n⟩ => ⟨hl, n.at⟩⟩⟩
theorem pe_lstN {es : List Expr} {t : TA} {pos} (h : PA X es t) : PE X (.List es pos) (tLstN t) :=
  ⟨fun pins s σ H Q I q => (pe_lst (pa_cl h)).run pins s σ H Q I ⟨_, q, fun xs H1 ⟨hl, n⟩ => ⟨hl, n.at⟩⟩⟩
def tDNewKN : TE := fun _ H Q => New H (.dK []) fun p H2 => Q (.ref p) H2
/-- a display of a dict: its pairs while it is empty, then filled -/
def tDispN (trs : List (TE × TE)) : TE := fun σ H Q => New H (.dK []) fun p H1 => tPairs trs σ H1 fun ps H2 => H2 p = some (.dK []) ∧ ∃ kvs : List (Key × V), ps = kvs.map (fun kv => (kV kv.1, kv.2)) ∧ kvs.length ≤ 15 ∧ Put H2 p (.dK (mergeK [] kvs)) fun H' => Q (.ref p) H'
def clP (trs : List (TE × TE)) : List (TE × TE) := trs.map fun q => (clE q.1, clE q.2)
theorem tPairs_cl : ∀ (trs : List (TE × TE)) (σ : L2.St) (H : Hp) (Q Q' : List (V × V) → Hp → Prop), tPairs trs σ H Q → (∀ ps H', Q ps H' → Q' ps H') → tPairs (clP trs) σ H Q'
  | [], σ, H, Q, Q', h, i => i _ _ h
  | (tk, tv) :: r, σ, H, Q, Q', h, i => ⟨_, h, fun x H1 h1 => ⟨_, h1, fun y H2 h2 => tPairs_cl r σ H2 _ _ h2 fun ps H3 h3 => i _ _ h3⟩⟩
theorem pe_dispN {pos : Pos} {keys : List (Option Expr)} {values : List Expr} {trs : List (TE × TE)} (h : PPs X pos keys values (clP trs)) (hall : keys.all (·.isSome) = true) (hl : keys.length = values.length) (h0 : keys ≠ [])
    (h15 : keys.length ≤ 15) : PE X (.Dict keys values pos) (tDispN trs) :=
  ⟨fun pins s σ H Q I q => (pe_disp h hall hl h0 h15).run pins s σ H Q I fun p hp => tPairs_cl trs σ _ _ _ (q p _ hp upd_same (same_upd hp)) fun ps H2 ⟨e, kvs, e1, e2, n⟩ => ⟨e, kvs, e1, e2, n.at⟩⟩
theorem pe_dnewKN {pos} : PE X (.Dict [] [] pos) tDNewKN := ⟨fun pins s σ H Q I q => pe_dnewK.run pins s σ H Q I (New.at q)⟩
end
/-! ### operators, whatever the operands are -/
section
variable {X : Cx}
def rAddG (K : PySem.W.Frag) : R2 := fun x y H Q => (rI0 fun i j => .int (i + j)) x y H Q ∨ (∃ i j, x = .str i ∧ y = .str j ∧ i.length + j.length ≤ sizeLine ∧ Q (.str (i ++ j)) H) ∨
  (∃ l b xs zs, x = .ref l ∧ y = .ref b ∧ H l = some (.lst xs) ∧ H b = some (.lst zs) ∧ xs.length + zs.length ≤ sizeLine ∧ New H (.lst (xs ++ zs)) fun p H' => Q (.ref p) H') ∨
  (∃ a b xs ys, x = .ref a ∧ y = .ref b ∧ SqT K H a xs ∧ SqT K H b ys ∧ xs.length + ys.length ≤ sizeLine ∧
    (xs = [] → Q (.ref b) H) ∧ (xs ≠ [] → ys = [] → Q (.ref a) H) ∧ (xs ≠ [] → ys ≠ [] → New H (.tup (xs ++ ys)) fun p H' => Q (.ref p) H'))
theorem op_addG : OpR X (binaryOp .Add) (rAddG X.K) := opr_imp (op_add.or (op_add_str.or (op_cat.or op_catA))) fun x y H Q h => by
  rcases h with h | h | ⟨l, b, xs, zs, e1, e2, h1, h2, hl, n⟩ | ⟨a, b, xs, ys, e1, e2, h1, h2, hl, n0, n1, n⟩
  · exact .inl h
  · exact .inr (.inl h)
  · exact .inr (.inr (.inl ⟨l, b, xs, zs, e1, e2, h1, h2, hl, n.at⟩))
  · exact .inr (.inr (.inr ⟨a, b, xs, ys, e1, e2, h1, h2, hl, n0, n1, fun x1 y1 => (n x1 y1).at⟩))
abbrev rSubG : R2 := rI0 fun i j => .int (i - j)
def rMulG : R2 := fun x y H Q => (rI CMul fun i j => .int (i * j)) x y H Q ∨ (rI CMulW fun i j => .int (i * j)) x y H Q
theorem op_mulG : OpR X (binaryOp .Mult) rMulG := op_mul.or op_mulW
abbrev rDivG : R2 := rI CDivW fun i j => .int (i / j)
abbrev rModG : R2 := rI (fun _ j => 0 < j) fun i j => .int (i % j)
abbrev rPowG : R2 := rI CPow fun i j => .int (i ^ j.toNat)
def rEqG (K : PySem.W.Frag) : R2 := fun x y H Q => rEq x y H Q ∨ rEqD K x y H Q
def rNeG (K : PySem.W.Frag) : R2 := fun x y H Q => rNe x y H Q ∨ rNeD K x y H Q
theorem op_eqG (hu : X.A.units + 64 < cLine) : OpR X (compareOp .Eq) (rEqG X.K) := op_eq.or (op_eqD hu)
theorem op_neG (hu : X.A.units + 64 < cLine) : OpR X (compareOp .NotEq) (rNeG X.K) := op_ne.or (op_neD hu)
abbrev rLtG : R2 := rI0 fun i j => .bl (decide (i < j))
abbrev rLeG : R2 := rI0 fun i j => .bl (decide (i ≤ j))
abbrev rGtG : R2 := rI0 fun i j => .bl (decide (j < i))
abbrev rGeG : R2 := rI0 fun i j => .bl (decide (j ≤ i))
/-- y in a tracked dict -/
def rInT (neg : Bool) : R2 := fun y x H Q => ∃ a o, x = .ref a ∧ DGet H a y o ∧ Q (.bl (if neg then !o.isSome else o.isSome)) H
theorem op_in_t (hu : X.A.units + 1 < cLine) : OpR X (compareOp .In) (rInT false) := by
  intro pins s σ H y x u v Q I ry rx h
  obtain ⟨a, o, rfl, g, q⟩ := h
  cases rx
  exact d_in hu I g ry fun s' I' => ⟨.bl o.isSome, H, I', rfl, q⟩
theorem op_notIn_t (hu : X.A.units + 1 < cLine) : OpR X (compareOp .NotIn) (rInT true) := by
  intro pins s σ H y x u v Q I ry rx h
  obtain ⟨a, o, rfl, g, q⟩ := h
  cases rx
  exact d_notIn hu I g ry fun s' I' => ⟨.bl (!o.isSome), H, I', rfl, q⟩
/-- the written dict at d holds z's value, or nothing -/
def KGet (K : PySem.W.Frag) (w : World) (d : Addr) (z : Str) (r : Option V) : Prop :=
  ∃ es n, KDict K w d es n ∧ ((r = none ∧ PySem.W.nsIn K d z = some none) ∨ ∃ u v, r = some v ∧ PySem.W.nsIn K d z = some (some u) ∧ RelV v u)
def rInK (K : PySem.W.Frag) (w : World) (neg : Bool) : R2 := fun y x H Q => ∃ z d r, y = .str z ∧ x = .ref d ∧ KGet K w d z r ∧ Q (.bl (if neg then !r.isSome else r.isSome)) H
theorem KGet.ns {K : PySem.W.Frag} {w : World} {d : Addr} {z : Str} {r : Option V} (h : KGet K w d z r) : ∃ es n r', KDict K w d es n ∧ PySem.W.nsIn K d z = some r' ∧ r'.isSome = r.isSome := by
  obtain ⟨es, n, D, ⟨rfl, e⟩ | ⟨u, v, rfl, e, _⟩⟩ := h
  · exact ⟨es, n, none, D, e, rfl⟩
  · exact ⟨es, n, some u, D, e, rfl⟩
theorem op_in_k : OpR X (compareOp .In) (rInK X.K X.w false) := by
  intro pins s σ H y x u v Q I ry rx h
  obtain ⟨z, d, r, rfl, rfl, g, q⟩ := h
  obtain ⟨es, n, r', D, e, e2⟩ := g.ns
  exact op_in_kd D pins s σ H _ _ u v Q I ry rx ⟨z, r', rfl, rfl, e, by rw [e2]; exact q⟩
theorem op_notIn_k : OpR X (compareOp .NotIn) (rInK X.K X.w true) := by
  intro pins s σ H y x u v Q I ry rx h
  obtain ⟨z, d, r, rfl, rfl, g, q⟩ := h
  obtain ⟨es, n, r', D, e, e2⟩ := g.ns
  exact op_notIn_kd D pins s σ H _ _ u v Q I ry rx ⟨z, r', rfl, rfl, e, by rw [e2]; exact q⟩
def rInS (neg : Bool) : R2 := fun x y H Q => ∃ i j, x = .str i ∧ y = .str j ∧ Q (.bl (if neg then !(!(Builtin.Str.occurrences j i 0 j.length 1).isEmpty) else !(Builtin.Str.occurrences j i 0 j.length 1).isEmpty)) H
theorem op_in_s : OpR X (compareOp .In) (rInS false) := op_in_str
theorem op_notIn_s : OpR X (compareOp .NotIn) (rInS true) := op_notIn_str
def rInG (K : PySem.W.Frag) (w : World) (neg : Bool) : R2 := fun x y H Q => rIn K neg x y H Q ∨ rInS neg x y H Q ∨ rInT neg x y H Q ∨ rInK K w neg x y H Q
theorem op_inG (hu : X.A.units + 1 < cLine) : OpR X (compareOp .In) (rInG X.K X.w false) := op_in_seq.or (op_in_s.or ((op_in_t hu).or op_in_k))
theorem op_notInG (hu : X.A.units + 1 < cLine) : OpR X (compareOp .NotIn) (rInG X.K X.w true) := op_notIn_seq.or (op_notIn_s.or ((op_notIn_t hu).or op_notIn_k))
/-! ### is -/
def rIsG (neg : Bool) : R2 := fun x y H Q => (y = .non ∧ Q (.bl (if neg then !decide (x = .non) else decide (x = .non))) H) ∨ (∃ a b : Bool, x = .bl a ∧ y = .bl b ∧ Q (.bl (if neg then !decide (a = b) else decide (a = b))) H)
theorem op_isG : OpR X (compareOp .Is) (rIsG false) := op_isN.or op_isBl
theorem op_isNotG : OpR X (compareOp .IsNot) (rIsG true) := op_notN.or op_notBl
/-! ### len of anything -/
def rLenD : List V → Hp → VK → Prop := fun xs H Q => ∃ a kvs, xs = [.ref a] ∧ Rd H a (.dK kvs) ∧ Q (.int kvs.length) H
theorem call_lenK : CallR X (.builtin "len") rLenD := by
  intro pins s σ H xs us Q I r h
  obtain ⟨a, kvs, rfl, g, q⟩ := h
  obtain ⟨u, rfl, ru⟩ := vals1 r
  cases ru
  exact d_len I g fun t s' I' => ⟨.int kvs.length, H, I', ⟨t, rfl⟩, q⟩
def rLenG (K : PySem.W.Frag) : List V → Hp → VK → Prop := fun xs H Q => (∃ x n, xs = [x] ∧ LenV K x H n ∧ Q (.int n) H) ∨ rLenD xs H Q
theorem call_lenG : CallR X (.builtin "len") (rLenG X.K) := call_len.or call_lenK
/-! ### what is walked -/
def iOr (a b : TI) : TI := fun σ H R => a σ H R ∨ b σ H R
theorem piOr {tg e : Expr} {a b : TI} (ha : PI X tg e a) (hb : PI X tg e b) : PI X tg e (iOr a b) :=
  ⟨fun pins s σ H R I h => h.elim (ha.run pins s σ H R I) (hb.run pins s σ H R I)⟩
/-- a list, a tuple, a text -/
def iSeq (K : PySem.W.Frag) (te : TE) : TI := iOr (iList K te) (iOr (iTup K te) (iStr te))
theorem pi_seq {tg e : Expr} {te : TE} (h : PE X e te) : PI X tg e (iSeq X.K te) := piOr (pi_list h) (piOr (pi_tup h) (pi_str h))
end

/-! ### subscripts, slices, stores -/
section
variable {X : Cx}
def rGetT : R2 := fun x y H Q => ∃ a v, x = .ref a ∧ DGet H a y (some v) ∧ Q v H
theorem ix_dictT (hu : X.A.units + 1 < cLine) : IxR X rGetT := by
  intro value slice pins s σ H x y v u Q I rx ry h hs
  obtain ⟨a, z, rfl, g, q⟩ := h
  cases rx
  exact tail_any (dict_typeIs I g) PySem.F.slot_dict_getitem.lookup (d_getItem hu I g ry fun w' s3 I3 rw' => ⟨z, H, I3, rw', q⟩) hs
def rGetK (K : PySem.W.Frag) (w : World) : R2 := fun x y H Q => ∃ d z v, x = .ref d ∧ y = .str z ∧ KGet K w d z (some v) ∧ Q v H
theorem ix_dictK : IxR X (rGetK X.K X.w) := by
  intro value slice pins s σ H x y v u Q I rx ry h hs
  obtain ⟨d, z, r, rfl, rfl, ⟨es, n, D, ⟨e0, _⟩ | ⟨u0, v0, e0, e1, r0⟩⟩, q⟩ := h
  · cases e0
  · cases e0
    have ry' := ry
    cases rx
    exact tail_any (kd_type D I) PySem.F.slot_dict_getitem.lookup (op_item_kd D pins s σ H (.ref d) (.str z) (.ref d) u Q I rfl ry' ⟨z, u0, r, rfl, rfl, e1, r0, q⟩) hs
def rIxG (K : PySem.W.Frag) (w : World) : R2 := fun x y H Q => rIx K x y H Q ∨ rGetT x y H Q ∨ rGetK K w x y H Q
theorem ix_any (hu : X.A.units + 1 < cLine) : IxR X (rIxG X.K X.w) := ix_seq.or ((ix_dictT hu).or ix_dictK)
def tIxG (K : PySem.W.Frag) (w : World) (ta tb : TE) : TE := tOp (rIxG K w) ta tb
theorem pe_ixG {a b : Expr} {ta tb : TE} {pos : Pos} (hu : X.A.units + 1 < cLine) (ha : PE X a ta) (hb : PE X b tb) (hs : PlainIx b) : PE X (.Subscript a b pos) (tIxG X.K X.w ta tb) := pe_ix (ix_any hu) ha hb hs
def rSlG (K : PySem.W.Frag) : V → Option Int → Option Int → Hp → VK → Prop := fun x lo hi H Q => (∃ a xs, x = .ref a ∧ SqL K H a xs ∧ New H (.lst (cutV xs lo hi)) fun p H' => Q (.ref p) H') ∨
  (∃ a xs, x = .ref a ∧ SqT K H a xs ∧ (HT.sIx xs.length 0 lo = 0 ∧ HT.sIx xs.length xs.length hi = xs.length → Q (.ref a) H) ∧ (¬ (HT.sIx xs.length 0 lo = 0 ∧ HT.sIx xs.length xs.length hi = xs.length) → New H (.tup (cutV xs lo hi)) fun p H' => Q (.ref p) H')) ∨ rSlS x lo hi H Q
theorem sl_any : SlR X (rSlG X.K) := slr_imp (sl_list.or (sl_tupA.or sl_str)) fun x lo hi H Q h => by
  rcases h with ⟨a, xs, e, h, n⟩ | ⟨a, xs, e, h, n1, n2⟩ | h
  · exact .inl ⟨a, xs, e, h, n.at⟩
  · exact .inr (.inl ⟨a, xs, e, h, n1, fun z => (n2 z).at⟩)
  · exact .inr (.inr h)
def tRevG (K : PySem.W.Frag) (te : TE) : TE := fun σ H Q => te σ H fun x H1 => ∃ a xs, x = .ref a ∧ SqL K H1 a xs ∧ New H1 (.lst xs.reverse) fun p H' => Q (.ref p) H'
theorem pe_revG {e : Expr} {te : TE} {k : Nat} {p1 p2 p3 pos : Pos} (he : PE X e te) : PE X (.Subscript e (.Slice none none (some (.UnaryOp .USub (.Constant (.int 1) k p1) p2)) p3) pos) (tRevG X.K te) :=
  ⟨fun pins s σ H Q I q => (pe_revL (pe_cl he)).run pins s σ H Q I ⟨_, q, fun x H1 ⟨a, xs, e, h, n⟩ => ⟨a, xs, e, h, n.at⟩⟩⟩
def rSetD : TSet := fun o i v H Q => ∃ a H', o = .ref a ∧ DPut H a i v H' ∧ Q H'
theorem set_dict (hu : X.A.units + 1 < cLine) : PSet X rSetD := by
  intro pins s σ H o i v ov iv u Q I ro ri rv h
  obtain ⟨a, H', rfl, g, q⟩ := h
  cases ro
  exact d_setItem hu I g ri rv fun s' I' => ⟨H', I', q⟩
def rSetG : TSet := fun o i v H Q => (∃ p xs k j, o = .ref p ∧ i = .int k ∧ H p = some (.lst xs) ∧ ixN xs.length k = some j ∧ Put H p (.lst (xs.set j v)) Q) ∨
  (∃ a kvs k, o = .ref a ∧ H a = some (.dK kvs) ∧ i = kV k ∧ kvs.length < sizeLine ∧ Put H a (.dK (putK kvs k v)) Q)
theorem set_any (hu : X.A.units + 1 < cLine) : PSet X rSetG := by
  intro pins s σ H o i v ov iv u Q I ro ri rv h
  rcases h with ⟨p, xs, k, j, e1, e2, h1, h2, q⟩ | ⟨a, kvs, k, e1, h1, e2, hl, q⟩
  · exact set_list pins s σ H o i v ov iv u Q I ro ri rv ⟨p, xs, k, j, e1, e2, h1, h2, q.at⟩
  · exact set_dict hu pins s σ H o i v ov iv u Q I ro ri rv ⟨a, _, e1, .inl ⟨kvs, k, h1, e2, hl, rfl⟩, q.at⟩
/-! ### tests by truth -/
def tTru (K : PySem.W.Frag) (ta : TE) : TT := fun σ H Q => ta σ H fun x H' => ∃ k, TruV K x H' k ∧ Q k H'
theorem pt_tru {a : Expr} {ta : TE} (ha : PE X a ta) (he : ∀ whole, isTrue a X.env whole = (do let v ← whole; standAt a.pos; holding [v] (truthy v))) : PT X a (tTru X.K ta) := pt_truth ha he
/-! ### builtins -/
abbrev rAbsG : List V → Hp → VK → Prop := fun xs H Q => ∃ i, xs = [.int i] ∧ Q (.int (if i < 0 then -i else i)) H
abbrev rMax2 : List V → Hp → VK → Prop := fun xs H Q => ∃ i j, xs = [.int i, .int j] ∧ Q (.int (if j > i then j else i)) H
abbrev rMin2 : List V → Hp → VK → Prop := fun xs H Q => ∃ i j, xs = [.int i, .int j] ∧ Q (.int (if j < i then j else i)) H
def rIntS : List V → Hp → VK → Prop := fun xs H Q => ∃ a n, xs = [.str a] ∧ PySem.intText? a = some n ∧ a.length ≤ 640 ∧ Q (.int n) H
def rIntG : List V → Hp → VK → Prop := fun xs H Q => (∃ i, xs = [.int i] ∧ Q (.int i) H) ∨ ∃ k, xs = [.bl k] ∧ Q (.int (if k then 1 else 0)) H
theorem call_intG : CallR X (.type "int") rIntG := call_int1
abbrev rBool1 : List V → Hp → VK → Prop := fun xs H Q => (∃ i, xs = [.int i] ∧ Q (.bl (i != 0)) H) ∨ ∃ k, xs = [.bl k] ∧ Q (.bl k) H
abbrev rStrG : List V → Hp → VK → Prop := fun xs H Q => ∃ i, xs = [.int i] ∧ i.natAbs.log2 < 1920 ∧ Q (.str (toString i)) H
def rListG (K : PySem.W.Frag) : List V → Hp → VK → Prop := fun xs H Q => (∃ p ys, xs = [.ref p] ∧ (SqL K H p ys ∨ SqT K H p ys) ∧ New H (.lst ys) fun l H' => Q (.ref l) H') ∨
  ∃ p kvs, xs = [.ref p] ∧ H p = some (.dK kvs) ∧ New H (.lst (kvs.map fun kv => kV kv.1)) fun q H' => Q (.ref q) H'
theorem call_listG (hc : X.calm = true) : CallR X (.type "list") (rListG X.K) := callr_imp (CallR.or call_list_of (call_list_dK hc)) fun xs H Q h => by
  rcases h with ⟨p, ys, e, h, n⟩ | ⟨p, kvs, e, h, n⟩
  · exact .inl ⟨p, ys, e, h, n.at⟩
  · exact .inr ⟨p, kvs, e, h, n.at⟩
def rTupleG (K : PySem.W.Frag) : List V → Hp → VK → Prop := fun xs H Q => ∃ p ys, xs = [.ref p] ∧ ((SqL K H p ys ∧ New H (.tup ys) fun l H' => Q (.ref l) H') ∨ (SqT K H p ys ∧ Q (.ref p) H))
theorem call_tupleG : CallR X (.type "tuple") (rTupleG X.K) := callr_imp call_tuple_of fun xs H Q ⟨p, ys, e, h⟩ => ⟨p, ys, e, h.imp (fun ⟨a, n⟩ => ⟨a, n.at⟩) id⟩
/-! ### methods of lists and texts -/
def rAppendG : V → List V → Hp → VK → Prop := fun x vs H Q => ∃ l xs y, x = .ref l ∧ vs = [y] ∧ H l = some (.lst xs) ∧ xs.length < sizeLine ∧ Put H l (.lst (xs ++ [y])) fun H' => Q .non H'
theorem mt_appendG : MtR X "list.append" rAppendG := mtr_imp mt_append fun x xs H Q ⟨l, ys, y, e1, e2, h, hl, q⟩ => ⟨l, ys, y, e1, e2, h, hl, q.at⟩
def rExtendG : V → List V → Hp → VK → Prop := fun x vs H Q => ∃ l b xs zs, x = .ref l ∧ vs = [.ref b] ∧ H l = some (.lst xs) ∧ H b = some (.lst zs) ∧ xs.length + zs.length ≤ sizeLine ∧ Put H l (.lst (xs ++ zs)) fun H' => Q .non H'
theorem mt_extendG : MtR X "list.extend" rExtendG := mtr_imp mt_extend fun x xs H Q ⟨l, b, ys, zs, e1, e2, h, h2, hl, q⟩ => ⟨l, b, ys, zs, e1, e2, h, h2, hl, q.at⟩
def rPopG : V → List V → Hp → VK → Prop := fun x vs H Q => ∃ l xs y, x = .ref l ∧ vs = [] ∧ H l = some (.lst xs) ∧ xs[xs.length - 1]? = some y ∧ Put H l (.lst xs.dropLast) fun H' => Q y H'
theorem mt_popG : MtR X "list.pop" rPopG := mtr_imp mt_pop fun x xs H Q ⟨l, ys, y, e1, e2, h, hl, q⟩ => ⟨l, ys, y, e1, e2, h, hl, q.at⟩
abbrev rIsiG := rIsi
theorem call_isiG : CallR X (.builtin "isinstance") (rIsiG X.K) := call_isi
def rSplitG : V → List V → Hp → VK → Prop := fun x xs H Q => ∃ a b, x = .str a ∧ xs = [.str b] ∧ (b.length == 0) = false ∧ a.length + 2 ≤ sizeLine ∧ New H (.lst ((Txt.split a b).map V.str)) fun p H' => Q (.ref p) H'
abbrev rJoinG (K : PySem.W.Frag) : V → List V → Hp → VK → Prop := fun x xs H Q => ∃ a p, ∃ ys : List Str, x = .str a ∧ xs = [.ref p] ∧ (SqL K H p (ys.map V.str) ∨ SqT K H p (ys.map V.str)) ∧
      (ys.map (·.length)).sum + ys.length * a.length ≤ 16777216 ∧ Q (.str (Txt.join a ys)) H
theorem pe_splitG {o e : Expr} {to te : TE} {apos pos : Pos} (ho : PE X o to) (he : PE X e te) (hs : starEach [e] X.env = [(false, eval e X.env)] := by rfl) (hbase : attributeBase o "split" X.env (eval o X.env) = eval o X.env := by rfl) (hline : (apos.endLine == pos.line) = true := by rfl) :
    PE X (.Call (.Attribute o "split" apos) [e] [] pos) (tM1 rSplitG to te) :=
  pe_m1 F.slot_str_split F.type_str_split (mtr_imp mt_split fun x xs H Q ⟨a, b, e1, e2, h1, h2, n⟩ => ⟨a, b, e1, e2, h1, h2, n.at⟩) ho he hs hbase hline
/-- a module's constant by its value -/
theorem pe_gc {x : Str} {v : V} {pos : Pos} (hg : Gl X x) (h : ∃ u, X.mg x = some u ∧ RelV v u) (hd : (x == ("__debug__" : Str)) = false := by decide) : PE X (.Name x pos) (tC v) := by
  obtain ⟨u, h1, h2⟩ := h
  exact pe_glob hg h1 h2 hd
end
/-! ### calls of the text's own defs -/
/-- a def that may be called by its name (no exception leaves it) -/
structure Cal (P : Program) (w : World) (K : PySem.W.Frag) (mg : Str → Option Value) (base : Heap) (k : Nat) (x : Str) (sp : Sp) : Prop where
  ex : ∃ (f : Addr) (fd : FuncData) (ps : List Str), FnOk P w K mg base CX0 k f fd ps sp ∧ mg x = some (.ref f) ∧ PySem.W.keepIn K (.ref f) = true ∧ Binds K fd ps []
section
variable {P : Program} {w : World} {K : PySem.W.Frag} {mg : Str → Option Value} {base : Heap}
theorem Cal.mono {j k : Nat} {x : Str} {sp : Sp} (c : Cal P w K mg base j x sp) (h : j ≤ k) : Cal P w K mg base k x sp := by
  obtain ⟨f, fd, ps, F, a, b, d⟩ := c.ex
  exact ⟨f, fd, ps, F.mono h, a, b, d⟩
theorem Cal.imp {k : Nat} {x : Str} {sp sp' : Sp} (c : Cal P w K mg base k x sp) (h : ∀ vs H Q E, sp' vs H Q E → sp vs H Q E) : Cal P w K mg base k x sp' := by
  obtain ⟨f, fd, ps, F, a, b, d⟩ := c.ex
  exact ⟨f, fd, ps, F.imp h, a, b, d⟩
theorem cal_mk {x : Str} {params : Arguments} {body : List Stmt} {scope : Scope} {f : Addr} {fd : FuncData} {N ps : List Str} {k : Nat} {sp : Sp} (F : FunD K x x params body scope [] [] f fd) (hm : mg x = some (.ref f)) (S : FnScope N ps scope)
    (b : Binds K fd ps []) (len : ∀ vs H Q E, sp vs H Q E → vs.length = ps.length)
    (hbody : ∀ (cdv : Value) (A : Around) (outer : List Env) (s : Shared) (H : Hp) (vs : List V) (Q : VK) (E : XK), Room k (A.deeper (envOfC x scope s.heap.objs.size f cdv)) → sp vs H Q E →
      ∃ t, PSs (cxOf CX0 P w K mg base N x scope f cdv A outer s H E) body t ∧ t { nx := fun _ H' => Q .non H', rt := Q } (start N vs) H) : Cal P w K mg base (k + 1) x sp :=
  ⟨f, fd, ps, F.ok S len hbody, hm, F.kp, b⟩
end
section
variable {X : Cx} {k : Nat} {x : Str} {sp : Sp} {p pos : Pos} {e : Expr} {es : List Expr} {t : TA}
theorem pe_cal (c : Cal X.prog X.w X.K X.mg X.base k x sp) (hr : Room k X.A) (hg : Gl X x) (ha : PA X (e :: es) t)
    (hdb : (x == ("__debug__" : Str)) = false := by decide) (he : starEach (e :: es) X.env = (false, eval e X.env) :: starEach es X.env := by rfl) (hpl : (backTo pos (starEach es X.env)).any (·.1) = false := by rfl) :
    PE X (.Call (.Name x p) (e :: es) [] pos) (tCall sp [] E0 t) := by
  obtain ⟨f, fd, ps, F, a, b, d⟩ := c.ex
  exact pe_call F hr hg a b d .nil pass0 ha hdb he hpl
theorem pe_cal0 (c : Cal X.prog X.w X.K X.mg X.base k x sp) (hr : Room k X.A) (hg : Gl X x)
    (hdb : (x == ("__debug__" : Str)) = false := by decide) : PE X (.Call (.Name x p) [] [] pos) (tCall sp [] E0 tNil) := by
  obtain ⟨f, fd, ps, F, a, b, d⟩ := c.ex
  exact pe_call0 F hr hg a b d .nil pass0 hdb
end
/-- the slots at the entry: m of them -/
def startN (m : Nat) (vs : List V) : L2.St := vs.map some ++ List.replicate (m - vs.length) none
/-- what of a def is shown without the text: its reading, run at its parameters' values, keeps its promise -/
structure PureOk (n : Nat) (sp : Sp) (t : TS) (m : Nat) : Prop where
  len : ∀ vs H Q E, sp vs H Q E → vs.length = n
  run : ∀ vs H Q E, sp vs H Q E → t { nx := fun _ H' => Q .non H', rt := Q } (startN m vs) H
/-- a written table with text keys -/
def KTab (K : PySem.W.Frag) (w : World) (d : Addr) (kvs : List (Str × V)) : Prop := ∀ z : Str, KGet K w d z ((kvs.find? fun q => decide (q.1 = z)).map (·.2))

/-! ### readings, step by step -/
section
variable {K : PySem.W.Frag} {w : World} {D : Ends} {σ σ' : L2.St} {H : Hp} {Q : VK} {v x y : V} {i j : Int} {n : Nat} {ta tb tc te : TE} {t u : TS} {p a b : Addr} {xs ys : List V} {s z : Str}
theorem g_seq (h : t { D with nx := u D } σ H) : tSeq t u D σ H := h
theorem g_next (h : D.nx σ H) : tNext D σ H := h
theorem g_ret (h : te σ H D.rt) : tRet te D σ H := h
theorem g_drop (h : te σ H fun _ H1 => D.nx σ H1) : tDrop te D σ H := h
theorem g_ifs {c : TT} (h : c σ H fun b H1 => if b = true then t D σ H1 else u D σ H1) : tIfS c t u D σ H := h
theorem g_asg {g : TG} (h : te σ H fun x H1 => g x σ H1 D.nx) : tAsg te g D σ H := h
theorem g_par {k l : Nat} {ta : TA} (h : ta σ H fun vs H1 => ∃ v w, vs = [v, w] ∧ D.nx ((σ.set k (some v)).set l (some w)) H1) : tPar k l ta D σ H := h
theorem g_name {Q : L2.St → Hp → Prop} {k : Nat} (h : σ.set k (some v) = σ') (q : Q σ' H) : gName k v σ H Q := by subst h; exact q
theorem g_sub {to ti : TE} {ts : TSet} {Q : L2.St → Hp → Prop} (h : to σ H fun o H1 => ti σ H1 fun i H2 => ts o i v H2 fun H3 => Q σ H3) : gSub to ti ts v σ H Q := h
theorem g_var {k : Nat} (h : σ[k]? = some (some v)) (q : Q v H) : tVar k σ H Q := ⟨v, h, q⟩
theorem g_c (q : Q v H) : tC v σ H Q := q
theorem g_op {r : R2} (h : ta σ H fun x H1 => tb σ H1 fun y H2 => r x y H2 Q) : tOp r ta tb σ H Q := h
theorem g_ixop (h : ta σ H fun x H1 => tb σ H1 fun y H2 => rIxG K w x y H2 Q) : tIxG K w ta tb σ H Q := h
theorem g_un {r : V → Hp → VK → Prop} (h : ta σ H fun x H1 => r x H1 Q) : tUn r ta σ H Q := h
theorem g_neg (q : Q (.int (-i)) H) : rU (fun i => .int (-i)) (.int i) H Q := ⟨i, rfl, q⟩
theorem g_test {Q : Bool → Hp → Prop} (h : te σ H fun x H' => ∃ k, x = .bl k ∧ Q k H') : tTest te σ H Q := h
theorem g_not {c : TT} {Q : Bool → Hp → Prop} (h : c σ H fun c H1 => Q (!c) H1) : tNot c σ H Q := h
theorem g_and {c d : TT} {Q : Bool → Hp → Prop} (h : c σ H fun c H1 => if c = true then d σ H1 Q else Q false H1) : tAnd c d σ H Q := h
theorem g_or {c d : TT} {Q : Bool → Hp → Prop} (h : c σ H fun c H1 => if c = true then Q true H1 else d σ H1 Q) : tOr c d σ H Q := h
theorem g_tru {Q : Bool → Hp → Prop} (h : ta σ H fun x H' => ∃ k, TruV K x H' k ∧ Q k H') : tTru K ta σ H Q := h
theorem g_trubl {R : Bool → Prop} {k : Bool} (q : R k) : ∃ k', TruV K (.bl k) H k' ∧ R k' := ⟨k, rfl, q⟩
theorem g_truint {R : Bool → Prop} (q : R (i != 0)) : ∃ k', TruV K (.int i) H k' ∧ R k' := ⟨_, rfl, q⟩
theorem g_trul {R : Bool → Prop} (h : SqL K H a xs) (q : R (!xs.isEmpty)) : ∃ k', TruV K (.ref a) H k' ∧ R k' := ⟨_, .inl ⟨xs, h, rfl⟩, q⟩
theorem g_bl {R : Bool → Prop} {k : Bool} (q : R k) : ∃ k', V.bl k = .bl k' ∧ R k' := ⟨k, rfl, q⟩
theorem g_ifx {c : TT} (h : c σ H fun c H1 => if c = true then ta σ H1 Q else tb σ H1 Q) : tIf c ta tb σ H Q := h
theorem g_andT (h : ta σ H fun x H1 => ∃ k, TruV K x H1 k ∧ if k = true then tb σ H1 Q else Q x H1) : tAndT K ta tb σ H Q := h
theorem g_orT (h : ta σ H fun x H1 => ∃ k, TruV K x H1 k ∧ if k = true then Q x H1 else tb σ H1 Q) : tOrT K ta tb σ H Q := h
theorem g_notT (h : ta σ H fun x H1 => ∃ k, TruV K x H1 k ∧ Q (.bl (!k)) H1) : tNotT K ta σ H Q := h
theorem g_nil {Q : List V → Hp → Prop} (q : Q [] H) : tNil σ H Q := q
theorem g_cons {Q : List V → Hp → Prop} {tr : TA} (h : te σ H fun x H1 => tr σ H1 fun xs H2 => Q (x :: xs) H2) : tCons te tr σ H Q := h
theorem g_call {sp : Sp} {E : XK} {t : TA} (h : t σ H fun vs H1 => sp (vs ++ []) H1 Q E) : tCall sp [] E t σ H Q := h
theorem g_cb {r : List V → Hp → VK → Prop} {t : TA} (h : t σ H fun vs H1 => r vs H1 Q) : tCB r t σ H Q := h
theorem g_tup {t : TA} (h : t σ H fun xs H1 => xs.length ≤ sizeLine ∧ New H1 (.tup xs) fun p H2 => Q (.ref p) H2) : tTupN t σ H Q := h
theorem g_lst {t : TA} (h : t σ H fun xs H1 => xs.length ≤ sizeLine ∧ New H1 (.lst xs) fun p H2 => Q (.ref p) H2) : tLstN t σ H Q := h
theorem g_len {R : Prop} (hl : xs.length ≤ sizeLine) (q : R) : xs.length ≤ sizeLine ∧ R := ⟨hl, q⟩
theorem g_dnew (h : New H (.dK []) fun p H2 => Q (.ref p) H2) : tDNewKN σ H Q := h
theorem g_disp {trs : List (TE × TE)} (h : New H (.dK []) fun p H1 => tPairs trs σ H1 fun ps H2 => H2 p = some (.dK []) ∧ ∃ kvs : List (Key × V), ps = kvs.map (fun kv => (kV kv.1, kv.2)) ∧ kvs.length ≤ 15 ∧ Put H2 p (.dK (mergeK [] kvs)) fun H' => Q (.ref p) H') : tDispN trs σ H Q := h
theorem g_pnil {Q : List (V × V) → Hp → Prop} (q : Q [] H) : tPairs [] σ H Q := q
theorem g_pcons {Q : List (V × V) → Hp → Prop} {r : List (TE × TE)} (h : ta σ H fun x H1 => tb σ H1 fun y H2 => tPairs r σ H2 fun ps H3 => Q ((x, y) :: ps) H3) : tPairs ((ta, tb) :: r) σ H Q := h
theorem g_pairs {R : List (Key × V) → Prop} {ps : List (V × V)} (kvs : List (Key × V)) (hd : H p = some (.dK [])) (e : ps = kvs.map (fun kv => (kV kv.1, kv.2))) (hl : kvs.length ≤ 15) (q : R kvs) : H p = some (.dK []) ∧ ∃ kvs : List (Key × V), ps = kvs.map (fun kv => (kV kv.1, kv.2)) ∧ kvs.length ≤ 15 ∧ R kvs := ⟨hd, kvs, e, hl, q⟩
theorem g_get2 (h : ta σ H fun x H1 => ∃ a, x = .ref a ∧ IsD H1 a ∧ tb σ H1 fun y H2 => tc σ H2 fun z H3 => ∃ o, DGet H3 a y o ∧ Q (o.getD z) H3) : tDGet2 ta tb tc σ H Q := h
theorem g_isd {R : Addr → Prop} {kvs : List (Key × V)} (h : H p = some (.dK kvs)) (q : R p) : ∃ a, V.ref p = .ref a ∧ IsD H a ∧ R a := ⟨p, rfl, .inl ⟨kvs, .of h⟩, q⟩
theorem g_dget {R : Option V → Prop} {kvs : List (Key × V)} {k : Key} (h : H p = some (.dK kvs)) (e : x = kV k) (q : R (valV kvs k)) : ∃ o, DGet H p x o ∧ R o := ⟨_, .inl ⟨kvs, k, .of h, e, rfl⟩, q⟩
theorem g_bm {T : String} {r : V → List V → Hp → VK → Prop} {to : TE} {t : TA} (h : to σ H fun x H1 => tyV K T x H1 ∧ t σ H1 fun xs H2 => r x xs H2 Q) : tBM K T r to t σ H Q := h
theorem g_bm0 {T : String} {r : V → List V → Hp → VK → Prop} {to : TE} (h : to σ H fun x H1 => tyV K T x H1 ∧ r x [] H1 Q) : tBM0 K T r to σ H Q := h
theorem g_tyl {R : Prop} (h : SqL K H a xs) (q : R) : tyV K "list" (.ref a) H ∧ R := ⟨.inl ⟨rfl, xs, h⟩, q⟩
theorem g_m1 {r : V → List V → Hp → VK → Prop} {to te : TE} (h : to σ H fun x H1 => (∃ a, x = .str a) ∧ te σ H1 fun y H2 => r x [y] H2 Q) : tM1 r to te σ H Q := h
theorem g_isstr {R : Prop} (q : R) : (∃ a, V.str s = .str a) ∧ R := ⟨⟨s, rfl⟩, q⟩
/-- the operators by kinds -/
theorem g_addI (q : Q (.int (i + j)) H) : rAddG K (.int i) (.int j) H Q := .inl ⟨i, j, rfl, rfl, q⟩
theorem g_addS (hl : s.length + z.length ≤ sizeLine) (q : Q (.str (s ++ z)) H) : rAddG K (.str s) (.str z) H Q := .inr (.inl ⟨s, z, rfl, rfl, hl, q⟩)
theorem g_addL (h1 : H a = some (.lst xs)) (h2 : H b = some (.lst ys)) (hl : xs.length + ys.length ≤ sizeLine) (q : New H (.lst (xs ++ ys)) fun p H' => Q (.ref p) H') : rAddG K (.ref a) (.ref b) H Q := .inr (.inr (.inl ⟨a, b, xs, ys, rfl, rfl, h1, h2, hl, q⟩))
theorem g_addT (h1 : SqT K H a xs) (h2 : SqT K H b ys) (hl : xs.length + ys.length ≤ sizeLine) (n1 : xs ≠ []) (n2 : ys ≠ []) (q : New H (.tup (xs ++ ys)) fun p H' => Q (.ref p) H') : rAddG K (.ref a) (.ref b) H Q :=
  .inr (.inr (.inr ⟨a, b, xs, ys, rfl, rfl, h1, h2, hl, fun e => absurd e n1, fun _ e => absurd e n2, fun _ _ => q⟩))
theorem g_subI (q : Q (.int (i - j)) H) : rSubG (.int i) (.int j) H Q := ⟨i, j, rfl, rfl, q⟩
theorem g_mulI (hc : CMul i j) (q : Q (.int (i * j)) H) : rMulG (.int i) (.int j) H Q := .inl ⟨i, j, rfl, rfl, hc, q⟩
theorem g_divI (hc : CDivW i j) (q : Q (.int (i / j)) H) : rDivG (.int i) (.int j) H Q := ⟨i, j, rfl, rfl, hc, q⟩
theorem g_modI (hc : 0 < j) (q : Q (.int (i % j)) H) : rModG (.int i) (.int j) H Q := ⟨i, j, rfl, rfl, hc, q⟩
theorem g_powI (hc : CPow i j) (q : Q (.int (i ^ j.toNat)) H) : rPowG (.int i) (.int j) H Q := ⟨i, j, rfl, rfl, hc, q⟩
theorem g_ltI (q : Q (.bl (decide (i < j))) H) : rLtG (.int i) (.int j) H Q := ⟨i, j, rfl, rfl, q⟩
theorem g_leI (q : Q (.bl (decide (i ≤ j))) H) : rLeG (.int i) (.int j) H Q := ⟨i, j, rfl, rfl, q⟩
theorem g_gtI (q : Q (.bl (decide (j < i))) H) : rGtG (.int i) (.int j) H Q := ⟨i, j, rfl, rfl, q⟩
theorem g_geI (q : Q (.bl (decide (j ≤ i))) H) : rGeG (.int i) (.int j) H Q := ⟨i, j, rfl, rfl, q⟩
theorem g_eqI (q : Q (.bl (decide (i = j))) H) : rEqG K (.int i) (.int j) H Q := .inl ⟨rfl, by rw [show decide (V.int i = V.int j) = decide (i = j) from by simp]; exact q⟩
theorem g_eqS (q : Q (.bl (decide (s = z))) H) : rEqG K (.str s) (.str z) H Q := .inl ⟨rfl, by rw [show decide (V.str s = V.str z) = decide (s = z) from by simp]; exact q⟩
theorem g_neI (q : Q (.bl (!decide (i = j))) H) : rNeG K (.int i) (.int j) H Q := .inl ⟨rfl, by rw [show decide (V.int i = V.int j) = decide (i = j) from by simp]; exact q⟩
theorem g_neS (q : Q (.bl (!decide (s = z))) H) : rNeG K (.str s) (.str z) H Q := .inl ⟨rfl, by rw [show decide (V.str s = V.str z) = decide (s = z) from by simp]; exact q⟩
theorem g_eqD {d e : PyData} (h1 : Dp K H x d) (h2 : Dp K H y e) (h3 : SeqAt.shaped d = true) (h4 : SeqAt.shaped e = true) (q : Q (.bl (PyData.eqv d e)) H) : rEqG K x y H Q := .inr ⟨d, e, h1, h2, h3, h4, q⟩
theorem g_neD {d e : PyData} (h1 : Dp K H x d) (h2 : Dp K H y e) (h3 : SeqAt.shaped d = true) (h4 : SeqAt.shaped e = true) (q : Q (.bl (!PyData.eqv d e)) H) : rNeG K x y H Q := .inr ⟨d, e, h1, h2, h3, h4, q⟩
theorem g_ixL (h : SqL K H p xs) (e : atI xs i = some v) (q : Q v H) : rIxG K w (.ref p) (.int i) H Q := .inl (.inl ⟨p, xs, i, v, rfl, rfl, h, e, q⟩)
theorem g_ixT (h : SqT K H p xs) (e : atI xs i = some v) (q : Q v H) : rIxG K w (.ref p) (.int i) H Q := .inl (.inr (.inl ⟨p, xs, i, v, rfl, rfl, h, e, q⟩))
theorem g_ixS {c : Nat} (hl : s.length ≤ sizeLine) (e : atI s.cps.toList i = some c) (q : Q (.str ⟨#[c]⟩) H) : rIxG K w (.str s) (.int i) H Q := .inl (.inr (.inr ⟨s, i, c, rfl, rfl, hl, e, q⟩))
theorem g_setL {R : Hp → Prop} {k : Nat} (h : H p = some (.lst xs)) (e : ixN xs.length i = some k) (q : Put H p (.lst (xs.set k v)) R) : rSetG (.ref p) (.int i) v H R := .inl ⟨p, xs, i, k, rfl, rfl, h, e, q⟩
theorem g_setK {R : Hp → Prop} {kvs : List (Key × V)} {k : Key} (h : H p = some (.dK kvs)) (e : x = kV k) (hl : kvs.length < sizeLine) (q : Put H p (.dK (putK kvs k v)) R) : rSetG (.ref p) x v H R := .inr ⟨p, kvs, k, rfl, h, e, hl, q⟩
theorem g_lenL (h : SqL K H p xs) (q : Q (.int xs.length) H) : rLenG K [.ref p] H Q := .inl ⟨.ref p, xs.length, rfl, .inl ⟨xs, h, rfl⟩, q⟩
theorem g_lenT (h : SqT K H p xs) (q : Q (.int xs.length) H) : rLenG K [.ref p] H Q := .inl ⟨.ref p, xs.length, rfl, .inr ⟨xs, h, rfl⟩, q⟩
theorem g_lenS (h : s.length ≤ sizeLine) (q : Q (.int s.length) H) : rLenG K [.str s] H Q := .inl ⟨.str s, s.length, rfl, ⟨h, rfl⟩, q⟩
theorem g_abs (q : Q (.int i.natAbs) H) : rAbsG [.int i] H Q := ⟨i, rfl, by rw [show (if i < 0 then -i else i) = (i.natAbs : Int) from by split <;> omega]; exact q⟩
theorem g_max2 (q : Q (.int (max i j)) H) : rMax2 [.int i, .int j] H Q := ⟨i, j, rfl, by rw [show (if j > i then j else i) = max i j from by split <;> omega]; exact q⟩
theorem g_min2 (q : Q (.int (min i j)) H) : rMin2 [.int i, .int j] H Q := ⟨i, j, rfl, by rw [show (if j < i then j else i) = min i j from by split <;> omega]; exact q⟩
theorem g_intI (q : Q (.int i) H) : rIntG [.int i] H Q := .inl ⟨i, rfl, q⟩
theorem g_intB {k : Bool} (q : Q (.int (if k then 1 else 0)) H) : rIntG [.bl k] H Q := .inr ⟨k, rfl, q⟩
theorem g_listL (h : SqL K H p xs) (q : New H (.lst xs) fun l H' => Q (.ref l) H') : rListG K [.ref p] H Q := .inl ⟨p, xs, rfl, .inl h, q⟩
theorem g_listT (h : SqT K H p xs) (q : New H (.lst xs) fun l H' => Q (.ref l) H') : rListG K [.ref p] H Q := .inl ⟨p, xs, rfl, .inr h, q⟩
theorem g_tupleL (h : SqL K H p xs) (q : New H (.tup xs) fun l H' => Q (.ref l) H') : rTupleG K [.ref p] H Q := ⟨p, xs, rfl, .inl ⟨h, q⟩⟩
theorem g_tupleT (h : SqT K H p xs) (q : Q (.ref p) H) : rTupleG K [.ref p] H Q := ⟨p, xs, rfl, .inr ⟨h, q⟩⟩
theorem g_append (h : H a = some (.lst xs)) (hl : xs.length < sizeLine) (q : Put H a (.lst (xs ++ [v])) fun H' => Q .non H') : rAppendG (.ref a) [v] H Q := ⟨a, xs, v, rfl, rfl, h, hl, q⟩
theorem g_extend (h : H a = some (.lst xs)) (h2 : H b = some (.lst ys)) (hl : xs.length + ys.length ≤ sizeLine) (q : Put H a (.lst (xs ++ ys)) fun H' => Q .non H') : rExtendG (.ref a) [.ref b] H Q := ⟨a, b, xs, ys, rfl, rfl, h, h2, hl, q⟩
theorem g_pop (h : H a = some (.lst (xs ++ [v]))) (q : Put H a (.lst xs) fun H' => Q v H') : rPopG (.ref a) [] H Q := ⟨a, xs ++ [v], v, rfl, rfl, h, by simp, by simpa using q⟩
/-- a common rest of several ways -/
structure Rest (B : Prop) : Prop where
  out : B
theorem g_cut {A B : Prop} (f : Rest B → A) (b : B) : A := f ⟨b⟩
/-- the slices -/
theorem g_sl {r : V → Option Int → Option Int → Hp → VK → Prop} {tl th : TO} (h : te σ H fun x H1 => tl σ H1 fun l H2 => th σ H2 fun u H3 => r x l u H3 Q) : tSl r te tl th σ H Q := h
theorem g_nopart {Q : Option Int → Hp → Prop} (q : Q none H) : tNoPart σ H Q := q
theorem g_part {Q : Option Int → Hp → Prop} (h : te σ H fun x H1 => ∃ i, x = .int i ∧ Q (some i) H1) : tPart te σ H Q := h
theorem g_ispart {R : Int → Prop} (q : R i) : ∃ i', V.int i = .int i' ∧ R i' := ⟨i, rfl, q⟩
theorem g_slL {lo hi : Option Int} (h : SqL K H p xs) (q : New H (.lst (cutV xs lo hi)) fun l H' => Q (.ref l) H') : rSlG K (.ref p) lo hi H Q := .inl ⟨p, xs, rfl, h, q⟩
theorem g_slT {lo hi : Option Int} (h : SqT K H p xs) (hw : ¬ (HT.sIx xs.length 0 lo = 0 ∧ HT.sIx xs.length xs.length hi = xs.length)) (q : New H (.tup (cutV xs lo hi)) fun l H' => Q (.ref l) H') : rSlG K (.ref p) lo hi H Q :=
  .inr (.inl ⟨p, xs, rfl, h, fun e => absurd e hw, fun _ => q⟩)
theorem g_slS {lo hi : Option Int} (hl : s.length ≤ sizeLine) (q : Q (.str (cutS s lo hi)) H) : rSlG K (.str s) lo hi H Q := .inr (.inr ⟨s, rfl, hl, q⟩)
theorem g_rev (h : ta σ H fun x H1 => ∃ a xs, x = .ref a ∧ SqL K H1 a xs ∧ New H1 (.lst xs.reverse) fun p H' => Q (.ref p) H') : tRevG K ta σ H Q := h
theorem g_revL {R : List V → Prop} (h : SqL K H a xs) (q : R xs) : ∃ a' xs, V.ref a = .ref a' ∧ SqL K H a' xs ∧ R xs := ⟨a, xs, rfl, h, q⟩
/-- tests -/
theorem g_T {A B : Prop} {b : Bool} (hb : b = true) (h : A) : if b = true then A else B := by rw [if_pos hb]; exact h
theorem g_F {A B : Prop} {b : Bool} (hb : b = false) (h : B) : if b = true then A else B := by rw [if_neg (by rw [hb]; decide)]; exact h
theorem g_ite {A B : Prop} {b : Bool} (h1 : b = true → A) (h2 : b = false → B) : if b = true then A else B := by
  cases b
  · exact h2 rfl
  · exact h1 rfl
end

section
variable {K : PySem.W.Frag} {w : World} {H : Hp} {v : V} {i j : Int} {p a b : Addr} {xs ys : List V} {Q : VK}
theorem Chg.refl : Chg p H H := fun _ _ _ e => e
theorem Chg.trans {H1 H2 : Hp} (h : Chg p H H1) (h' : Chg p H1 H2) : Chg p H H2 := fun b o n e => h' b o n (h b o n e)
theorem Chg.same {H1 : Hp} (h : Same H H1) : Chg p H H1 := fun b o _ e => h b o e
/-- changes at a new object are none of the old ones -/
theorem Same.chg {H1 H2 : Hp} (h : Same H H1) (hp : H p = none) (c : Chg p H1 H2) : Same H H2 := fun b o e => c b o (ne_of_none e hp) (h b o e)
theorem atI_of {α : Type} {xs : List α} {i : Int} {v : α} (h0 : 0 ≤ i) (h : xs[i.toNat]? = some v) : atI xs i = some v := by
  have := atI_nat h
  rwa [Int.toNat_of_nonneg h0] at this
theorem atI_in {α : Type} {xs : List α} {i : Int} (h0 : 0 ≤ i) (h1 : i < xs.length) : ∃ v, atI xs i = some v ∧ v ∈ xs ∧ xs[i.toNat]? = some v := by
  have h2 : i.toNat < xs.length := by omega
  exact ⟨xs[i.toNat], atI_of h0 (List.getElem?_eq_getElem h2), List.getElem_mem h2, List.getElem?_eq_getElem h2⟩
end
/-! ### loops and comprehensions, by what holds at their turns -/
section
variable {K : PySem.W.Frag} {w : World} {H : Hp} {Q : VK} {p : Addr} {ss : List Str} {k : Str}
theorem inV_str : ∀ ss : List Str, inV (.str k) (ss.map V.str) = decide (k ∈ ss)
  | [] => by simp [inV]
  | s :: ss => by
    have ih := inV_str ss
    unfold inV at ih ⊢
    rw [List.map_cons, List.any_cons, ih]
    show (s == k || decide (k ∈ ss)) = _
    by_cases e : s = k
    · subst e; simp
    · have e' : ¬ k = s := fun z => e z.symm
      rw [show (s == k) = false from by simp [e]]
      simp [e']
theorem flat_strs : ∀ ss : List Str, (ss.map V.str).all flatV = true
  | [] => rfl
  | s :: ss => by rw [List.map_cons, List.all_cons, flat_strs ss]; rfl
theorem g_inT (h : SqT K H p (ss.map V.str)) (q : Q (.bl (decide (k ∈ ss))) H) : rInG K w false (.str k) (.ref p) H Q :=
  .inl ⟨p, ss.map V.str, rfl, .inr h, rfl, flat_strs ss, by rw [inV_str]; exact q⟩
theorem g_notInT (h : SqT K H p (ss.map V.str)) (q : Q (.bl (!decide (k ∈ ss))) H) : rInG K w true (.str k) (.ref p) H Q :=
  .inl ⟨p, ss.map V.str, rfl, .inr h, rfl, flat_strs ss, by rw [inV_str]; exact q⟩
theorem g_inL (h : SqL K H p (ss.map V.str)) (q : Q (.bl (decide (k ∈ ss))) H) : rInG K w false (.str k) (.ref p) H Q :=
  .inl ⟨p, ss.map V.str, rfl, .inl h, rfl, flat_strs ss, by rw [inV_str]; exact q⟩
theorem g_notInL (h : SqL K H p (ss.map V.str)) (q : Q (.bl (!decide (k ∈ ss))) H) : rInG K w true (.str k) (.ref p) H Q :=
  .inl ⟨p, ss.map V.str, rfl, .inl h, rfl, flat_strs ss, by rw [inV_str]; exact q⟩
theorem dp_ints : ∀ ns : List Int, DpAll K H (ns.map V.int) (ns.map PyData.int)
  | [] => .nil
  | n :: ns => .cons (.int n) (dp_ints ns)
theorem shaped_ints (ns : List Int) : SeqAt.shaped (.list (ns.map PyData.int)) = true := by
  have h1 : ∀ ns : List Int, PyData.canLayAll0 (ns.map PyData.int) = true := by
    intro ns
    induction ns with
    | nil => rfl
    | cons n ns ih => simp [PyData.canLayAll0, PyData.canLay0, ih]
  have h2 : ∀ ns : List Int, PyData.depthAll (ns.map PyData.int) ≤ 1 := by
    intro ns
    induction ns with
    | nil => simp [PyData.depthAll]
    | cons n ns ih => simp [PyData.depthAll, PyData.depth] at ih ⊢; omega
  have h3 := h2 ns
  unfold SeqAt.shaped
  rw [show PyData.canLay0 (.list (ns.map PyData.int)) = true from by rw [PyData.canLay0]; exact h1 ns, Bool.true_and]
  rw [decide_eq_true_eq, PyData.depth]
  omega
theorem g_isi {x : V} {a b : String} {r : Bool} (ty : TyOf K H x (.type a)) (h : kitB a b = some r) (q : Q (.bl r) H) : rIsiG K [x, .ty b] H Q := ⟨x, .ty b, .type a, .type b, r, rfl, .ty b, .base ty, kit_ty h, q⟩
end
/-! what is walked -/
section
variable {K : PySem.W.Frag} {te : TE} {ta : TA} {σ : L2.St} {H : Hp} {R : It → Hp → Prop} {n : Int} {p : Addr} {xs : List V} {x : Str}
theorem g_rng1 (h : ta σ H fun vs H1 => ∃ j : Int, vs = [.int j] ∧ -(2 ^ 62) ≤ j ∧ j < 2 ^ 62 ∧ R (Itr 0 j.toNat) H1) : iRng1 ta σ H R := h
theorem g_isrng {R : Int → Prop} (h1 : -(2 ^ 62) ≤ n) (h2 : n < 2 ^ 62) (q : R n) : ∃ j : Int, [V.int n] = [.int j] ∧ -(2 ^ 62) ≤ j ∧ j < 2 ^ 62 ∧ R j := ⟨n, rfl, h1, h2, q⟩
theorem g_seqL (h : te σ H fun x H1 => ∃ a, x = .ref a ∧ (∃ xs, SqL K H1 a xs) ∧ R (Itl K a) H1) : iSeq K te σ H R := .inl h
theorem g_seqT (h : te σ H fun x H1 => ∃ a, x = .ref a ∧ (∃ xs, SqT K H1 a xs) ∧ R (Itt K a) H1) : iSeq K te σ H R := .inr (.inl h)
theorem g_seqS (h : te σ H fun v H1 => ∃ x, v = .str x ∧ R (Its x) H1) : iSeq K te σ H R := .inr (.inr h)
theorem g_isL {R : Addr → Prop} (h : SqL K H p xs) (q : R p) : ∃ a, V.ref p = .ref a ∧ (∃ xs, SqL K H a xs) ∧ R a := ⟨p, rfl, ⟨xs, h⟩, q⟩
theorem g_isT {R : Addr → Prop} (h : SqT K H p xs) (q : R p) : ∃ a, V.ref p = .ref a ∧ (∃ xs, SqT K H a xs) ∧ R a := ⟨p, rfl, ⟨xs, h⟩, q⟩
theorem g_isS {R : Str → Prop} (q : R x) : ∃ y, V.str x = .str y ∧ R y := ⟨x, rfl, q⟩
def LcW (J : It) (g : TG) (tt : TT) (te : TE) (vs : List Nat) (σ : L2.St) (H1 : Hp) (D : Addr) (Qd : Hp → Prop) : Prop := ∃ W : Nat → Nat → Hp → Prop, (∃ m, W 0 m (upd H1 D (.lst []))) ∧ ∀ i m H, W i m H →
  (J.stop i H ∧ Qd H) ∨ (J.go i H ∧ ∃ Nx : Hp → Prop, (∀ H', Nx H' → ∃ m', m' < m ∧ W (i + 1) m' H') ∧ ∀ x H', J.yld i H x H' → g x (wipe σ vs) H' fun σ2 H2 => wipe σ2 vs = wipe σ vs ∧ tt σ2 H2 fun b H3 =>
    if b = true then te σ2 H3 fun y H4 => ∃ acc, H4 D = some (.lst acc) ∧ acc.length < sizeLine ∧ Nx (upd H4 D (.lst (acc ++ [y]))) else Nx H3)
def LcR (J : It) (g : TG) (tt : TT) (te : TE) (vs : List Nat) (σ : L2.St) (H1 : Hp) (R : Addr → Hp → Prop) : Prop := ∀ D, H1 D = none → LcW J g tt te vs σ H1 D (R D)
def ForW (J : It) (g : TG) (tb : TS) (D : Ends) (σ : L2.St) (H1 : Hp) : Prop := ∃ W : Nat → Nat → L2.St → Hp → Prop, (∃ m, W 0 m σ H1) ∧ ∀ i m σ H, W i m σ H →
  (J.stop i H ∧ D.nx σ H) ∨ (J.go i H ∧ ∃ N : L2.St → Hp → Prop, (∀ σ' H', N σ' H' → ∃ m', m' < m ∧ W (i + 1) m' σ' H') ∧ ∀ x H', J.yld i H x H' → g x σ H' fun σ2 H2 => tb { D with nx := N, ct := N, bk := D.nx } σ2 H2)
theorem g_lc {g : TG} {tt : TT} {vs : List Nat} {wi : TI} {Q : VK} (h : wi σ H fun J H1 => LcR J g tt te vs σ H1 fun D H => Q (.ref D) H) : tLc wi g tt te vs σ H Q := h
theorem g_for {g : TG} {wi : TI} {tb : TS} {D : Ends} (h : wi σ H fun J H1 => ForW J g tb D σ H1) : tFor wi g tb D σ H := h
theorem g_yes {Q : Bool → Hp → Prop} (q : Q true H) : tYes σ H Q := q
theorem g_wipe {A B : Prop} (a : A) (b : B) : A ∧ B := ⟨a, b⟩
end
section
variable {J : It} {g : TG} {tb : TS} {D : Ends} {σ : L2.St} {H H1 : Hp} {tt : TT} {te : TE} {vs : List Nat} {d : Addr} {Qd : Hp → Prop}
theorem for_any (n : Nat) (Pv : Nat → L2.St → Hp → Prop) (h0 : Pv 0 σ H) (hgo : ∀ i σ H, i < n → Pv i σ H → J.go i H) (hstop : ∀ σ H, Pv n σ H → J.stop n H)
    (hs : ∀ i x σ H H', i < n → Pv i σ H → J.yld i H x H' → g x σ H' fun σ2 H2 => tb { D with nx := Pv (i + 1), ct := Pv (i + 1), bk := D.nx } σ2 H2) (hd : ∀ σ H, Pv n σ H → D.nx σ H) :
    ForW J g tb D σ H := by
  refine ⟨fun i m σ H => Pv i σ H ∧ i ≤ n ∧ m = n - i, ⟨n, h0, Nat.zero_le _, rfl⟩, fun i m σ H ⟨hp, hi, hm⟩ => ?_⟩
  by_cases hin : i = n
  · subst hin
    exact .inl ⟨hstop _ _ hp, hd _ _ hp⟩
  · have hlt : i < n := by omega
    exact .inr ⟨hgo _ _ _ hlt hp, Pv (i + 1), fun σ' H' h' => ⟨n - (i + 1), by omega, h', hlt, rfl⟩, fun x H' hy => hs i x σ H H' hlt hp hy⟩
/-- the list at d behind the i-th turn -/
def NxR (R : Nat → List V → Hp → Prop) (d : Addr) (i : Nat) (H : Hp) : Prop := ∃ acc, H d = some (.lst acc) ∧ acc.length ≤ i ∧ R i acc H
theorem lc_step {R : Nat → List V → Hp → Prop} {i : Nat} {acc : List V} {y : V} (h : H d = some (.lst acc)) (hl : acc.length ≤ i) (hi : i < sizeLine) (q : Put H d (.lst (acc ++ [y])) fun H5 => R (i + 1) (acc ++ [y]) H5) :
    ∃ acc, H d = some (.lst acc) ∧ acc.length < sizeLine ∧ NxR R d (i + 1) (upd H d (.lst (acc ++ [y]))) :=
  ⟨acc, h, Nat.lt_of_le_of_lt hl hi, acc ++ [y], upd_same, by rw [List.length_append, List.length_singleton]; omega, q.at⟩
theorem lc_any (n : Nat) (R : Nat → List V → Hp → Prop) (hD : H1 d = none) (h0 : ∀ H', H' d = some (.lst []) → Same H1 H' → R 0 [] H') (hgo : ∀ i acc H, i < n → R i acc H → J.go i H) (hstop : ∀ acc H, R n acc H → J.stop n H)
    (hs : ∀ i x acc H H', i < n → acc.length ≤ i → R i acc H → H d = some (.lst acc) → J.yld i H x H' → g x (wipe σ vs) H' fun σ2 H2 => wipe σ2 vs = wipe σ vs ∧ tt σ2 H2 fun b H3 =>
      if b = true then te σ2 H3 fun y H4 => ∃ acc, H4 d = some (.lst acc) ∧ acc.length < sizeLine ∧ NxR R d (i + 1) (upd H4 d (.lst (acc ++ [y]))) else NxR R d (i + 1) H3)
    (hd : ∀ acc H, H d = some (.lst acc) → R n acc H → Qd H) :
    LcW J g tt te vs σ H1 d Qd := by
  refine ⟨fun i m H => NxR R d i H ∧ i ≤ n ∧ m = n - i, ⟨n, ⟨[], upd_same, Nat.le_refl _, h0 _ upd_same (same_upd hD)⟩, Nat.zero_le _, rfl⟩, fun i m H ⟨⟨acc, ha, hl, hr⟩, hi, hm⟩ => ?_⟩
  by_cases hin : i = n
  · subst hin
    exact .inl ⟨hstop _ _ hr, hd _ _ ha hr⟩
  · have hlt : i < n := by omega
    exact .inr ⟨hgo _ _ _ hlt hr, NxR R d (i + 1), fun H' h' => ⟨n - (i + 1), by omega, h', hlt, rfl⟩, fun x H' hy => hs i x acc H H' hlt hl hr ha hy⟩
end

local macro_rules | `(tactic| walk_at "g1") => `(tactic| first
  | with_reducible refine g_seq ?_ | with_reducible refine g_asg ?_ | with_reducible refine g_op ?_ | with_reducible refine g_ixop ?_ | ((with_reducible refine g_ixL (xs := ?gx) (v := ?gv) (SqL.of ?gh) ?ge ?_); (case gh => assumption); (case ge => exact rfl)) | with_reducible refine g_c ?_
  | ((with_reducible refine g_var (v := ?gv) ?gh ?_); (case gh => exact rfl))
  | ((with_reducible refine g_name (σ' := ?gs) ?gh ?_); (case gh => (dsimp only [List.set]; exact rfl)))
  | with_reducible refine g_cons ?_ | with_reducible refine g_nil ?_ | with_reducible refine g_ifs ?_ | with_reducible refine g_test ?_ | with_reducible refine g_bl ?_ | with_reducible refine g_cb ?_
  | with_reducible refine g_addI ?_ | with_reducible refine g_subI ?_ | with_reducible refine g_eqI ?_ | with_reducible refine g_eqS ?_ | with_reducible refine g_neI ?_ | with_reducible refine g_neS ?_
  | with_reducible refine g_ltI ?_ | with_reducible refine g_leI ?_ | with_reducible refine g_gtI ?_ | with_reducible refine g_geI ?_
  | with_reducible refine g_ret ?_ | with_reducible refine g_next ?_ | with_reducible refine g_call ?_ | with_reducible refine g_drop ?_ | with_reducible refine g_sub ?_
  | with_reducible refine g_and ?_ | with_reducible refine g_or ?_ | with_reducible refine g_not ?_ | with_reducible refine g_tru ?_ | with_reducible refine g_trubl ?_ | with_reducible refine g_truint ?_ | with_reducible refine g_ifx ?_
  | with_reducible refine g_abs ?_ | with_reducible refine g_max2 ?_ | with_reducible refine g_min2 ?_ | with_reducible refine g_intI ?_ | with_reducible refine g_intB ?_
  | with_reducible refine g_tup ?_ | with_reducible refine g_lst ?_ | ((with_reducible refine g_len ?gl ?_); (case gl => (show _ ≤ 16777216; simp only [List.length_cons, List.length_nil]; omega))) | with_reducible refine g_dnew ?_
  | with_reducible refine g_bm ?_ | with_reducible refine g_bm0 ?_ | with_reducible refine g_m1 ?_ | with_reducible refine g_isstr ?_ | with_reducible refine g_sl ?_ | with_reducible refine g_nopart ?_ | with_reducible refine g_part ?_ | with_reducible refine g_ispart ?_
  | with_reducible refine g_un ?_ | with_reducible refine g_neg ?_ | with_reducible refine g_andT ?_ | with_reducible refine g_orT ?_ | with_reducible refine g_notT ?_ | with_reducible refine g_rev ?_ | with_reducible refine g_par ?_ | with_reducible refine g_lc ?_ | with_reducible refine g_for ?_ | with_reducible refine g_rng1 ?_ | with_reducible refine g_yes ?_ | with_reducible refine g_isS ?_ | with_reducible refine g_disp ?_ | with_reducible refine g_pcons ?_ | with_reducible refine g_pnil ?_ | with_reducible refine g_get2 ?_)
local macro_rules | `(tactic| walk_at "go") => `(tactic| repeat walk_at "g1")

/-! ### the readings of the defs -/
def t_named_by (K : PySem.W.Frag) (w : World) : TS :=
  (tSeq (tIfS (tTest (tOp (rInG K w false) (tIxG K w (tVar 0) (tC (.int 0))) (tTupN (tCons (tC (.str "number")) (tCons (tC (.str "call")) (tCons (tC (.str "bare")) tNil)))))) (tRet (tLstN tNil)) tNext)
  (tSeq (tIfS (tTest (tOp (rEqG K) (tIxG K w (tVar 0) (tC (.int 0))) (tC (.str "function")))) (tRet (tCB (rListG K) (tCons (tIxG K w (tVar 0) (tC (.int 2))) tNil))) tNext)
  (tRet (tCB (rListG K) (tCons (tSl (rSlG K) (tVar 0) (tPart (tC (.int 1))) tNoPart) tNil)))))
def t_law_pen (K : PySem.W.Frag) (w : World) : TS :=
  (tRet (tLstN (tCons (tCB (rListG K) (tCons (tSl (rSlG K) (tVar 0) tNoPart (tPart (tC (.int 63)))) tNil)) (tCons (tC (.int 0)) (tCons (tC (.int 0)) tNil)))))
def t_law_draw (K : PySem.W.Frag) (w : World) : TS :=
  (tSeq (tIfS (tTest (tOp rGtG (tIxG K w (tVar 0) (tC (.int 2))) (tC (.int 0)))) (tSeq (tAsg (tOp rModG (tIxG K w (tVar 0) (tC (.int 2))) (tVar 1)) (gName 2))
  (tSeq (tAsg (tOp rDivG (tIxG K w (tVar 0) (tC (.int 2))) (tVar 1)) (gSub (tVar 0) (tC (.int 2)) rSetG))
  (tRet (tVar 2)))) tNext)
  (tSeq (tAsg (tIxG K w (tVar 0) (tC (.int 1))) (gName 3))
  (tSeq (tAsg (tOp (rAddG K) (tVar 3) (tC (.int 1))) (gSub (tVar 0) (tC (.int 1)) rSetG))
  (tSeq (tAsg (tIxG K w (tOp (rAddG K) (tIxG K w (tVar 0) (tC (.int 0))) (tLstN (tCons (tC (.int 7)) tNil))) (tOp rModG (tVar 3) (tCB rMax2 (tCons (tC (.int 1)) (tCons (tCB (rLenG K) (tCons (tIxG K w (tVar 0) (tC (.int 0))) tNil)) tNil))))) (gName 4))
  (tSeq (tIfS (tAnd (tTest (tOp rLtG (tVar 3) (tCB (rLenG K) (tCons (tIxG K w (tVar 0) (tC (.int 0))) tNil)))) (tTest (tOp rGeG (tCB rAbsG (tCons (tVar 4) tNil)) (tOp rPowG (tC (.int 10)) (tC (.int 18)))))) (tSeq (tAsg (tOp rDivG (tCB rAbsG (tCons (tVar 4) tNil)) (tVar 1)) (gSub (tVar 0) (tC (.int 2)) rSetG))
  (tRet (tOp rModG (tCB rAbsG (tCons (tVar 4) tNil)) (tVar 1)))) tNext)
  (tSeq (tAsg (tIxG K w (tLstN (tCons (tC (.int 2147483647)) (tCons (tC (.int 2147483629)) (tCons (tC (.int 2147483587)) (tCons (tC (.int 2147483579)) (tCons (tC (.int 2147483563)) (tCons (tC (.int 2147483549)) (tCons (tC (.int 2147483543)) tNil)))))))) (tOp rModG (tVar 3) (tC (.int 7)))) (gName 5))
  (tSeq (tAsg (tOp rModG (tOp rMulG (tOp (rAddG K) (tOp (rAddG K) (tOp rModG (tVar 4) (tC (.int 2147483497))) (tOp rMulG (tC (.int 69621)) (tVar 3))) (tC (.int 13))) (tC (.int 48271))) (tVar 5)) (gName 6))
  (tSeq (tAsg (tOp rModG (tOp (rAddG K) (tOp (rAddG K) (tOp rMulG (tVar 6) (tVar 6)) (tOp rMulG (tC (.int 40692)) (tVar 6))) (tVar 3)) (tC (.int 2147483489))) (gName 6))
  (tSeq (tAsg (tOp rModG (tOp rMulG (tVar 6) (tC (.int 16807))) (tC (.int 2147483477))) (gName 6))
  (tSeq (tIfS (tTest (tOp rGtG (tVar 1) (tOp rPowG (tC (.int 10)) (tC (.int 7))))) (tAsg (tOp rPowG (tVar 6) (tC (.int 8))) (gName 6)) tNext)
  (tRet (tOp rModG (tOp rDivG (tVar 6) (tC (.int 32))) (tVar 1)))))))))))))
def t_law_names (K : PySem.W.Frag) (w : World) (s_law_draw : Sp) : TS :=
  (tSeq (tAsg (tC (.str "abcdefghijklmnopqrstuvwxyz")) (gName 2))
  (tSeq (tAsg (tM1 (rJoinG K) (tC (.str "")) (tLc (iRng1 (tCons (tOp (rAddG K) (tC (.int 1)) (tCall s_law_draw [] E0 (tCons (tVar 0) (tCons (tC (.int 8)) tNil)))) tNil)) (gName 4) tYes (tIxG K w (tVar 2) (tCall s_law_draw [] E0 (tCons (tVar 0) (tCons (tC (.int 26)) tNil)))) [4])) (gName 3))
  (tSeq (tAsg (tCall s_law_draw [] E0 (tCons (tVar 0) (tCons (tCB (rLenG K) (tCons (tVar 3) tNil)) tNil))) (gName 5))
  (tSeq (tAsg (tCall s_law_draw [] E0 (tCons (tVar 0) (tCons (tC (.int 26)) tNil))) (gName 6))
  (tSeq (tAsg (tIxG K w (tLstN (tCons (tC (.int 1)) (tCons (tC (.int 3)) (tCons (tC (.int 5)) (tCons (tC (.int 7)) (tCons (tC (.int 9)) (tCons (tC (.int 11)) tNil))))))) (tCall s_law_draw [] E0 (tCons (tVar 0) (tCons (tC (.int 6)) tNil)))) (gName 7))
  (tRet (tLc (iRng1 (tCons (tVar 1) tNil)) (gName 4) tYes (tOp (rAddG K) (tOp (rAddG K) (tSl (rSlG K) (tVar 3) tNoPart (tPart (tVar 5))) (tIxG K w (tVar 2) (tOp rModG (tOp (rAddG K) (tVar 6) (tOp rMulG (tVar 7) (tVar 4))) (tC (.int 26))))) (tSl (rSlG K) (tVar 3) (tPart (tOp (rAddG K) (tVar 5) (tC (.int 1)))) tNoPart)) [4])))))))
def t_law_number (K : PySem.W.Frag) (w : World) (s_law_draw : Sp) : TS :=
  (tSeq (tAsg (tCall s_law_draw [] E0 (tCons (tVar 0) (tCons (tC (.int 9)) tNil))) (gName 1))
  (tSeq (tIfS (tTest (tOp (rEqG K) (tVar 1) (tC (.int 8)))) (tRet (tOp (rAddG K) (tOp rSubG (tCall s_law_draw [] E0 (tCons (tVar 0) (tCons (tOp rSubG (tOp rMulG (tC (.int 2)) (tOp rPowG (tC (.int 10)) (tC (.int 60)))) (tC (.int 1))) tNil))) (tOp rPowG (tC (.int 10)) (tC (.int 60)))) (tC (.int 1)))) tNext)
  (tSeq (tIfS (tTest (tOp (rEqG K) (tVar 1) (tC (.int 7)))) (tRet (tOp rSubG (tCall s_law_draw [] E0 (tCons (tVar 0) (tCons (tOp rMulG (tC (.int 2)) (tOp rPowG (tC (.int 10)) (tC (.int 31)))) tNil))) (tOp rPowG (tC (.int 10)) (tC (.int 31))))) tNext)
  (tRet (tOp rSubG (tCall s_law_draw [] E0 (tCons (tVar 0) (tCons (tC (.int 9)) tNil))) (tIxG K w (tLstN (tCons (tC (.int 0)) (tCons (tC (.int 0)) (tCons (tC (.int 0)) (tCons (tC (.int 1)) (tCons (tC (.int 2)) (tCons (tC (.int 4)) (tCons (tC (.int 0)) tNil)))))))) (tVar 1)))))))
def t_law_cell (K : PySem.W.Frag) (w : World) (s_law_draw : Sp) (s_law_number : Sp) (s_law_names : Sp) : TS :=
  (tSeq (tAsg (tM1 rSplitG (tC (.str "number call bare same left right give plus less times below pair when function")) (tC (.str " "))) (gName 1))
  (tSeq (tAsg (tIxG K w (tVar 1) (tCall s_law_draw [] E0 (tCons (tVar 0) (tCons (tC (.int 14)) tNil)))) (gName 2))
  (tSeq (tAsg (tDGet2 (tDispN (((tC (.str "number")), (tC (.int 0))) :: (((tC (.str "call")), (tC (.int 0))) :: (((tC (.str "bare")), (tC (.int 0))) :: (((tC (.str "same")), (tC (.int 1))) :: (((tC (.str "left")), (tC (.int 1))) :: (((tC (.str "right")), (tC (.int 1))) :: (((tC (.str "when")), (tC (.int 3))) :: [])))))))) (tVar 2) (tC (.int 2))) (gName 3))
  (tSeq (tAsg (tLc (iRng1 (tCons (tVar 3) tNil)) (gName 5) tYes (tCall s_law_draw [] E0 (tCons (tVar 0) (tCons (tC (.int 4001)) tNil))) [5]) (gName 4))
  (tSeq (tIfS (tTest (tOp (rEqG K) (tVar 2) (tC (.str "number")))) (tRet (tTupN (tCons (tTupN (tCons (tC (.str "number")) (tCons (tCall s_law_number [] E0 (tCons (tVar 0) tNil)) tNil))) (tCons (tLstN tNil) tNil)))) tNext)
  (tSeq (tIfS (tTest (tOp (rEqG K) (tVar 2) (tC (.str "bare")))) (tRet (tTupN (tCons (tTupN (tCons (tC (.str "bare")) tNil)) (tCons (tLstN tNil) tNil)))) tNext)
  (tSeq (tIfS (tTest (tOp (rEqG K) (tVar 2) (tC (.str "call")))) (tRet (tTupN (tCons (tTupN (tCons (tC (.str "call")) (tCons (tIxG K w (tLstN (tCons (tIxG K w (tCall s_law_names [] E0 (tCons (tVar 0) (tCons (tC (.int 1)) tNil))) (tC (.int 0))) (tCons (tC (.str "")) tNil))) (tCall s_law_draw [] E0 (tCons (tVar 0) (tCons (tC (.int 2)) tNil)))) tNil))) (tCons (tLstN tNil) tNil)))) tNext)
  (tSeq (tIfS (tTest (tOp (rEqG K) (tVar 2) (tC (.str "function")))) (tSeq (tAsg (tLc (iRng1 (tCons (tCall s_law_draw [] E0 (tCons (tVar 0) (tCons (tC (.int 4)) tNil))) tNil)) (gName 5) tYes (tCall s_law_draw [] E0 (tCons (tVar 0) (tCons (tC (.int 4001)) tNil))) [5]) (gName 4))
  (tRet (tTupN (tCons (tTupN (tCons (tC (.str "function")) (tCons (tIxG K w (tCall s_law_names [] E0 (tCons (tVar 0) (tCons (tC (.int 1)) tNil))) (tC (.int 0))) (tCons (tCB (rTupleG K) (tCons (tVar 4) tNil)) tNil)))) (tCons (tVar 4) tNil))))) tNext)
  (tRet (tTupN (tCons (tCB (rTupleG K) (tCons (tOp (rAddG K) (tLstN (tCons (tVar 2) tNil)) (tVar 4)) tNil)) (tCons (tVar 4) tNil))))))))))))
def t_law (K : PySem.W.Frag) (w : World) (s_law_pen : Sp) (s_law_cell : Sp) (s_named_by : Sp) : TS :=
  (tSeq (tAsg (tCall s_law_pen [] E0 (tCons (tVar 0) tNil)) (gName 1))
  (tSeq (tFor (iRng1 (tCons (tC (.int 20)) tNil)) (gName 2) (tSeq (tAsg (tCall s_law_cell [] E0 (tCons (tVar 1) tNil)) (gTup K 2 (gCons (gName 3) (gCons (gName 4) gNil))))
  (tSeq (tAsg (tCall s_named_by [] E0 (tCons (tVar 3) tNil)) (gName 5))
  (tSeq (tIfS (tOr (tNot (tTru K (tCB (rIsiG K) (tCons (tVar 5) (tCons (tC (.ty "list")) tNil))))) (tTest (tOp (rNeG K) (tVar 5) (tVar 4)))) (tRet (tC (.bl false))) tNext)
  (tSeq (tDrop (tBM K "list" rAppendG (tVar 5) (tCons (tC (.int 0)) tNil)))
  (tIfS (tTest (tOp (rNeG K) (tCall s_named_by [] E0 (tCons (tVar 3) tNil)) (tVar 4))) (tRet (tC (.bl false))) tNext))))))
  (tRet (tC (.bl true)))))
/-! ### the draws -/
theorem pen_ne {H : Hp} {pen L : Addr} {ns : List Int} {i j : Int} (hp : H pen = some (.lst [.ref L, .int i, .int j])) (hL : H L = some (.lst (ns.map V.int))) : L ≠ pen := by
  rintro rfl
  rw [hL] at hp
  have := congrArg (fun o => match o with | some (HO.lst (x :: _)) => (match x with | .ref _ => true | _ => false) | _ => false) hp
  cases ns <;> simp at this
/-- a pen: the script's list L, the turn, what is left of a great number -/
def PenAt (H : Hp) (pen L : Addr) : Prop := ∃ (ns : List Int) (at_ rest : Int), H pen = some (.lst [.ref L, .int at_, .int rest]) ∧ H L = some (.lst (ns.map V.int)) ∧ 0 ≤ at_ ∧ 0 ≤ rest ∧ ns.length ≤ 63
section
variable {H H' : Hp} {pen L d : Addr}
theorem PenAt.same (h : PenAt H pen L) (s : Same H H') : PenAt H' pen L := by
  obtain ⟨ns, a, r, hp, hL, x⟩ := h
  exact ⟨ns, a, r, s _ _ hp, s _ _ hL, x⟩
/-- a pen stays where another object changes -/
theorem PenAt.chg (h : PenAt H pen L) (c : Chg d H H') (n1 : pen ≠ d) (n2 : L ≠ d) : PenAt H' pen L := by
  obtain ⟨ns, a, r, hp, hL, x⟩ := h
  exact ⟨ns, a, r, c _ _ n1 hp, c _ _ n2 hL, x⟩
theorem PenAt.ne (h : PenAt H pen L) (hd : H d = none) : pen ≠ d ∧ L ≠ d := by
  obtain ⟨ns, a, r, hp, hL, x⟩ := h
  exact ⟨ne_of_none hp hd, ne_of_none hL hd⟩
end
def spDraw : Sp := fun vs H Q _ => ∃ (pen L : Addr) (many : Int), vs = [.ref pen, .int many] ∧ PenAt H pen L ∧ 0 < many ∧ many.natAbs < 2 ^ 250 ∧
  ∀ (v : Int) (H' : Hp), 0 ≤ v → v < many → PenAt H' pen L → Chg pen H H' → Q (.int v) H'
theorem g_draw {H : Hp} {Q : VK} {E : XK} {pen L : Addr} {many : Int} (h : PenAt H pen L) (h0 : 0 < many) (h1 : many.natAbs < 2 ^ 250) (q : ∀ (v : Int) (H' : Hp), 0 ≤ v → v < many → PenAt H' pen L → Chg pen H H' → Q (.int v) H') :
    spDraw ([.ref pen, .int many] ++ []) H Q E := ⟨pen, L, many, rfl, h, h0, h1, q⟩
theorem pure_draw {K : PySem.W.Frag} {w : World} : PureOk 2 spDraw (t_law_draw K w) 7 := by
  refine ⟨fun vs H Q E ⟨pen, L, many, e, _⟩ => by rw [e]; rfl, ?_⟩
  rintro vs H Q E ⟨pen, L, many, rfl, ⟨ns, at_, rest, hp, hL, h0, h1, hl⟩, hm, hmb, q'⟩
  have hne : L ≠ pen := pen_ne hp hL
  have q : ∀ (v a' r' : Int) (H' : Hp), 0 ≤ v → v < many → 0 ≤ a' → 0 ≤ r' → H' pen = some (.lst [.ref L, .int a', .int r']) → Chg pen H H' → Q (.int v) H' :=
    fun v a' r' H' v0 v1 a0 r0 e c => q' v H' v0 v1 ⟨ns, a', r', e, c L _ hne hL, a0, r0, hl⟩ c
  have hdw : ∀ x, CDivW x many := fun x => wide_div hm hmb (by decide) (by decide)
  have mod0 : ∀ x : Int, 0 ≤ x % many := fun x => Int.emod_nonneg x (Int.ne_of_gt hm)
  have mod1 : ∀ x : Int, x % many < many := fun x => Int.emod_lt_of_pos x hm
  show t_law_draw K w _ [some (.ref pen), some (.int many), none, none, none, none, none] H
  unfold t_law_draw
  walk_at "go"
  refine g_ite (fun hr => ?_) (fun _ => ?_)
  · walk_at "go"
    refine g_modI hm ?_
    walk_at "go"
    refine g_divI (hdw _) ?_
    walk_at "go"
    refine g_setL hp rfl fun H' e1 c1 => ?_
    walk_at "go"
    exact q _ at_ (rest / many) H' (mod0 _) (mod1 _) h0 (Int.ediv_nonneg h1 (Int.le_of_lt hm)) e1 c1
  · walk_at "go"
    refine g_setL hp rfl fun H1 e1 c1 => ?_
    have hL1 := c1 L _ hne hL
    walk_at "go"
    intro p H2 np e2 s2
    have hL2 := s2 _ _ hL1
    have hp2 := s2 _ _ e1
    walk_at "go"
    refine g_addL hL2 e2 (by show _ ≤ 16777216; simp; omega) fun p' H3 np' e3 s3 => ?_
    have hL3 := s3 _ _ hL2
    have hp3 := s3 _ _ hp2
    walk_at "go"
    refine g_lenL (.of hL3) ?_
    walk_at "go"
    refine g_modI (by omega) ?_
    have hat : ∃ c : Int, atI (List.map V.int ns ++ [V.int 7]) (at_ % max 1 ((List.map V.int ns).length : Int)) = some (.int c) := by
      have a0 := Int.emod_nonneg at_ (b := max 1 ((List.map V.int ns).length : Int)) (by omega)
      have a1 := Int.emod_lt_of_pos at_ (b := max 1 ((List.map V.int ns).length : Int)) (by omega)
      obtain ⟨v, h1, h2, _⟩ := atI_in (xs := List.map V.int ns ++ [V.int 7]) a0 (by rw [List.length_append, List.length_singleton]; omega)
      rw [List.mem_append, List.mem_map] at h2
      rcases h2 with ⟨c, _, rfl⟩ | h2
      · exact ⟨c, h1⟩
      · rw [List.mem_singleton] at h2
        exact ⟨7, h2 ▸ h1⟩
    obtain ⟨c, hc⟩ := hat
    refine g_ixL (.of e3) hc ?_
    walk_at "go"
    refine g_lenL (.of hL3) ?_
    walk_at "go"
    refine g_cut (B := ?B) ?f ?b
    case f =>
      intro tail
      refine g_ite (fun _ => ?_) (fun _ => ?_)
      · walk_at "go"
        refine g_powI ⟨by decide, by decide, by decide⟩ ?_
        walk_at "go"
        refine g_ite (fun hbig => ?_) (fun _ => ?_)
        · walk_at "go"
          refine g_divI (hdw _) ?_
          walk_at "go"
          refine g_setL hp3 rfl fun H4 e4 c4 => ?_
          walk_at "go"
          refine g_modI hm ?_
          exact q _ (at_ + 1) (c.natAbs / many) H4 (mod0 _) (mod1 _) (by omega) (Int.ediv_nonneg (by omega) (Int.le_of_lt hm)) e4 ((c1.trans (.same s2)).trans ((Chg.same s3).trans c4))
        · exact tail.out
      · refine g_F rfl ?_
        exact tail.out
    case b =>
      walk_at "go"
      intro p4 H4 np4 e4 s4
      walk_at "go"
      refine g_modI (by decide) ?_
      obtain ⟨pr, hpr, hmem⟩ : ∃ pr : Int, atI [V.int 2147483647, V.int 2147483629, V.int 2147483587, V.int 2147483579, V.int 2147483563, V.int 2147483549, V.int 2147483543] (at_ % 7) = some (.int pr) ∧ 0 < pr ∧ pr < 2 ^ 31 := by
        obtain ⟨v, h1, h2, _⟩ := atI_in (xs := [V.int 2147483647, V.int 2147483629, V.int 2147483587, V.int 2147483579, V.int 2147483563, V.int 2147483549, V.int 2147483543]) (Int.emod_nonneg at_ (by decide)) (Int.emod_lt_of_pos at_ (b := 7) (by decide))
        simp only [List.mem_cons, List.not_mem_nil, or_false] at h2
        rcases h2 with rfl | rfl | rfl | rfl | rfl | rfl | rfl <;> exact ⟨_, h1, by decide, by decide⟩
      refine g_ixL (.of e4) hpr ?_
      walk_at "go"
      refine g_modI (by decide) ?_
      walk_at "go"
      refine g_mulI (.inl ⟨by decide, by decide⟩) ?_
      walk_at "go"
      refine g_mulI (.inr ⟨by decide, by decide⟩) ?_
      walk_at "go"
      refine g_modI hmem.1 ?_
      have x0 := Int.emod_nonneg ((c % 2147483497 + 69621 * at_ + 13) * 48271) (Int.ne_of_gt hmem.1)
      have x1 := Int.emod_lt_of_pos ((c % 2147483497 + 69621 * at_ + 13) * 48271) hmem.1
      generalize (c % 2147483497 + 69621 * at_ + 13) * 48271 % pr = x at x0 x1
      walk_at "go"
      refine g_mulI (.inl ⟨by omega, by omega⟩) ?_
      walk_at "go"
      refine g_mulI (.inl ⟨by decide, by decide⟩) ?_
      walk_at "go"
      refine g_modI (by decide) ?_
      have y0 := Int.emod_nonneg (x * x + 40692 * x + at_) (b := 2147483489) (by decide)
      have y1 := Int.emod_lt_of_pos (x * x + 40692 * x + at_) (b := 2147483489) (by decide)
      generalize (x * x + 40692 * x + at_) % 2147483489 = y at y0 y1
      walk_at "go"
      refine g_mulI (.inl ⟨by omega, by omega⟩) ?_
      walk_at "go"
      refine g_modI (by decide) ?_
      have z0 := Int.emod_nonneg (y * 16807) (b := 2147483477) (by decide)
      have z1 := Int.emod_lt_of_pos (y * 16807) (b := 2147483477) (by decide)
      generalize y * 16807 % 2147483477 = z at z0 z1
      have fin : ∀ u : Int, Q (.int (u / 32 % many)) H4 := fun u =>
        q _ (at_ + 1) rest H4 (mod0 _) (mod1 _) (by omega) h1 (s4 _ _ hp3) ((c1.trans (.same s2)).trans ((Chg.same s3).trans (.same s4)))
      walk_at "go"
      refine g_powI ⟨by decide, by decide, by decide⟩ ?_
      walk_at "go"
      refine g_ite (fun _ => ?_) (fun _ => ?_)
      · walk_at "go"
        refine g_powI ⟨by decide, by decide, by omega⟩ ?_
        walk_at "go"
        refine g_divI ⟨by decide, by decide⟩ ?_
        walk_at "go"
        exact g_modI hm (fin _)
      · walk_at "go"
        refine g_divI ⟨by decide, by decide⟩ ?_
        walk_at "go"
        exact g_modI hm (fin _)


/-! ### names -/
open SX in
theorem letters_eq : (Str.ofString "abcdefghijklmnopqrstuvwxyz").cps.toList = (List.range 26).map (97 + ·) := by decide +kernel
def isName (s : Str) : Prop := 1 ≤ s.length ∧ s.length ≤ 8 ∧ ∀ c ∈ s.cps.toList, 97 ≤ c ∧ c < 123
theorem letter_at {i : Int} (h0 : 0 ≤ i) (h1 : i < 26) : atI (Str.ofString "abcdefghijklmnopqrstuvwxyz").cps.toList i = some (97 + i.toNat) := by
  refine atI_of h0 ?_
  rw [letters_eq, List.getElem?_map, List.getElem?_range (by omega)]
  rfl
theorem letters_len : (Str.ofString "abcdefghijklmnopqrstuvwxyz").length ≤ sizeLine := by
  show (Str.ofString "abcdefghijklmnopqrstuvwxyz").cps.size ≤ _
  rw [← Array.length_toList, letters_eq, List.length_map, List.length_range]
  show 26 ≤ 16777216
  omega
theorem sum_ones : ∀ cs : List Nat, ((cs.map fun c => SX.S [c]).map (·.length)).sum = cs.length
  | [] => rfl
  | c :: cs => by
    rw [List.map_cons, List.map_cons, List.sum_cons, sum_ones cs, SX.S_len, List.length_cons, List.length_cons, List.length_nil]
    omega
/-- the k-th name: the word with another letter at a place -/
def nameK (cs : List Nat) (at_ first by_ k : Nat) : Str := SX.S (cs.take at_ ++ [97 + (first + by_ * k) % 26] ++ cs.drop (at_ + 1))
theorem cutS_to (cs : List Nat) (n : Nat) (h : n ≤ cs.length) : cutS (SX.S cs) none (some (n : Int)) = SX.S (cs.take n) := by
  unfold cutS
  rw [HT.sIx_none, HT.sIx_nat, SX.S_len, Nat.min_eq_left h]
  rfl
theorem cutS_from (cs : List Nat) (n : Nat) (h : n ≤ cs.length) : cutS (SX.S cs) (some (n : Int)) none = SX.S (cs.drop n) := by
  unfold cutS
  rw [HT.sIx_none, HT.sIx_nat, SX.S_len, Nat.min_eq_left h]
  show SX.S ((cs.drop n).take (cs.length - n)) = _
  rw [List.take_of_length_le (by rw [List.length_drop]; omega)]
theorem nameK_is {cs : List Nat} {at_ first by_ k : Nat} (h : at_ < cs.length) (h8 : cs.length ≤ 8) (hc : ∀ c ∈ cs, 97 ≤ c ∧ c < 123) : isName (nameK cs at_ first by_ k) := by
  refine ⟨?_, ?_, ?_⟩
  · rw [nameK, SX.S_len]
    simp only [List.length_append, List.length_take, List.length_drop, List.length_singleton]
    omega
  · rw [nameK, SX.S_len]
    simp only [List.length_append, List.length_take, List.length_drop, List.length_singleton]
    omega
  · intro c hm
    have hm' : c ∈ cs.take at_ ++ [97 + (first + by_ * k) % 26] ++ cs.drop (at_ + 1) := hm
    simp only [List.mem_append, List.mem_singleton] at hm'
    rcases hm' with (hm' | rfl) | hm'
    · exact hc c (List.mem_of_mem_take hm')
    · omega
    · exact hc c (List.mem_of_mem_drop hm')
theorem nameK_inj {cs : List Nat} {at_ first by_ j k : Nat} (h : at_ < cs.length) (hb : by_ ∈ [1, 3, 5, 7, 9, 11]) (hj : j < 26) (hk : k < 26) (e : nameK cs at_ first by_ j = nameK cs at_ first by_ k) : j = k := by
  have e1 := SX.S_inj e
  rw [List.append_assoc, List.append_assoc] at e1
  have e2 := List.append_cancel_left e1
  simp only [List.singleton_append, List.cons.injEq, and_true] at e2
  simp only [List.mem_cons, List.not_mem_nil, or_false] at hb
  rcases hb with rfl | rfl | rfl | rfl | rfl | rfl <;> omega
def spNames : Sp := fun vs H Q _ => ∃ (pen L : Addr) (many : Int), vs = [.ref pen, .int many] ∧ PenAt H pen L ∧ 0 ≤ many ∧ many ≤ 26 ∧
  ∀ (d : Addr) (ss : List Str) (H' : Hp), (ss.length : Int) = many → (∀ s ∈ ss, isName s) → ss.Nodup → H d = none → H' d = some (.lst (ss.map V.str)) → PenAt H' pen L → Chg pen H H' → Q (.ref d) H'
theorem pure_names {K : PySem.W.Frag} {w : World} : PureOk 2 spNames (t_law_names K w spDraw) 8 := by
  refine ⟨fun vs H Q E ⟨pen, L, many, e, _⟩ => by rw [e]; rfl, ?_⟩
  rintro vs H Q E ⟨pen, L, many, rfl, hP, hm0, hm1, q⟩
  show t_law_names K w _ _ [some (.ref pen), some (.int many), none, none, none, none, none, none] H
  unfold t_law_names
  walk_at "go"
  refine g_draw hP (by decide) (by decide) fun n H1 n0 n1 hP1 c1 => ?_
  walk_at "go"
  refine g_isrng (by omega) (by omega) fun D hD => ?_
  refine lc_any (1 + n).toNat (fun i acc H' => ∃ cs : List Nat, acc = (cs.map fun c => SX.S [c]).map V.str ∧ cs.length = i ∧ (∀ c ∈ cs, 97 ≤ c ∧ c < 123) ∧ PenAt H' pen L ∧ Chg pen H1 H') hD
    (fun H' _ s => ⟨[], rfl, rfl, by simp, hP1.same s, .same s⟩) (fun i acc H' hi _ => hi) (fun acc H' _ => Nat.le_refl _) ?_ ?_
  · rintro i x acc H2 _ hi hl ⟨cs, rfl, hc, hcs, hP2, c2⟩ hd2 ⟨rfl, rfl⟩
    walk_at "go"
    refine ⟨rfl, ?_⟩
    walk_at "go"
    refine g_T rfl ?_
    walk_at "go"
    refine g_draw hP2 (by decide) (by decide) fun v H3 v0 v1 hP3 c3 => ?_
    refine g_ixS letters_len (letter_at v0 v1) ?_
    have hn := hP1.ne hD
    refine lc_step (c3 _ _ hn.1.symm hd2) hl (by show _ < 16777216; omega) fun H5 e5 c5 => ?_
    refine ⟨cs ++ [97 + v.toNat], by simp, by simp [hc], ?_, hP3.chg c5 hn.1 hn.2, ?_⟩
    · intro c hm
      rw [List.mem_append, List.mem_singleton] at hm
      rcases hm with hm | rfl
      · exact hcs c hm
      · omega
    · exact fun b o hb e => c5 b o (ne_of_none e hD) (c3 b o hb (c2 b o hb e))
  · rintro acc H2 hd2 ⟨cs, rfl, hc, hcs, hP2, c2⟩
    have hsum := sum_ones cs
    refine ⟨_, D, cs.map fun c => SX.S [c], rfl, rfl, .inl (.of hd2), ?_, ?_⟩
    · rw [hsum, List.length_map]
      show _ + _ * 0 ≤ _
      omega
    have ej : Txt.join (Str.ofString "") (cs.map fun c => SX.S [c]) = SX.S cs := by
      have e0 : Str.ofString "" = SX.S [] := by decide +kernel
      rw [e0, show (cs.map fun c => SX.S [c]) = (cs.map fun c => [c]).map SX.S from by rw [List.map_map]; rfl, SX.join_S]
      congr 1
      have : ∀ l : List Nat, TL.joinL [] (l.map fun c => [c]) = l := by
        intro l
        induction l with
        | nil => rfl
        | cons a l ih =>
          cases l with
          | nil => rfl
          | cons b l =>
            show [a] ++ ([] ++ TL.joinL [] ((b :: l).map fun c => [c])) = _
            rw [ih]
            rfl
      exact this cs
    rw [ej]
    walk_at "go"
    refine g_lenS (by rw [SX.S_len]; show _ ≤ 16777216; omega) ?_
    rw [SX.S_len]
    walk_at "go"
    refine g_draw (many := (cs.length : Int)) hP2 (by omega) (by omega) fun v H3 v0 v1 hP3 c3 => ?_
    walk_at "go"
    refine g_draw hP3 (by decide) (by decide) fun f H4 f0 f1 hP4 c4 => ?_
    walk_at "go"
    intro p H5 np e5 s5
    have hP5 := hP4.same s5
    walk_at "go"
    refine g_draw hP5 (by decide) (by decide) fun y H6 y0 y1 hP6 c6 => ?_
    obtain ⟨by_, hby, hbm⟩ : ∃ by_ : Nat, atI [V.int 1, V.int 3, V.int 5, V.int 7, V.int 9, V.int 11] y = some (.int by_) ∧ by_ ∈ [1, 3, 5, 7, 9, 11] := by
      obtain ⟨v, h1, h2, _⟩ := atI_in (xs := [V.int 1, V.int 3, V.int 5, V.int 7, V.int 9, V.int 11]) y0 y1
      simp only [List.mem_cons, List.not_mem_nil, or_false] at h2
      rcases h2 with rfl | rfl | rfl | rfl | rfl | rfl <;> first | exact ⟨1, h1, by decide⟩ | exact ⟨3, h1, by decide⟩ | exact ⟨5, h1, by decide⟩ | exact ⟨7, h1, by decide⟩ | exact ⟨9, h1, by decide⟩ | exact ⟨11, h1, by decide⟩
    have npen : p ≠ pen := fun e => (hP4.ne np).1 e.symm
    refine g_ixL (.of (c6 _ _ npen e5)) hby ?_
    walk_at "go"
    refine g_isrng (by omega) (by omega) fun D2 hD2 => ?_
    have hn2 := hP6.ne hD2
    have hlen : (SX.S cs).length ≤ sizeLine := by rw [SX.S_len]; show _ ≤ 16777216; omega
    refine lc_any many.toNat (fun i acc H' => acc = ((List.range i).map fun k => nameK cs v.toNat f.toNat by_ k).map V.str ∧ PenAt H' pen L ∧ Chg pen H6 H') hD2
      (fun H' _ s => ⟨rfl, hP6.same s, .same s⟩) (fun i acc H' hi _ => hi) (fun acc H' _ => Nat.le_refl _) ?_ ?_
    · rintro i x acc H7 _ hi hl ⟨rfl, hP7, c7⟩ hd7 ⟨rfl, rfl⟩
      walk_at "go"
      refine ⟨rfl, ?_⟩
      walk_at "go"
      refine g_T rfl ?_
      walk_at "go"
      refine g_slS hlen ?_
      walk_at "go"
      refine g_mulI (.inl ⟨by omega, by simp only [List.mem_cons, List.not_mem_nil, or_false] at hbm; omega⟩) ?_
      walk_at "go"
      refine g_modI (by decide) ?_
      refine g_ixS letters_len (letter_at (Int.emod_nonneg _ (by decide)) (Int.emod_lt_of_pos _ (by decide))) ?_
      refine g_addS (Nat.le_trans (Nat.add_le_add (cutS_length _ _ _) (Nat.le_refl _)) (by rw [SX.S_len]; show cs.length + 1 ≤ 16777216; omega)) ?_
      walk_at "go"
      refine g_slS hlen ?_
      have ek : (cutS (SX.S cs) none (some v) ++ (⟨#[97 + ((f + (by_ : Int) * (0 + (i : Int))) % 26).toNat]⟩ : Str)) ++ cutS (SX.S cs) (some (v + 1)) none = nameK cs v.toNat f.toNat by_ i := by
        have ev : v = (v.toNat : Int) := by omega
        have ev1 : v + 1 = ((v.toNat + 1 : Nat) : Int) := by omega
        rw [ev1, cutS_from _ _ (by omega)]
        rw [show cutS (SX.S cs) none (some v) = SX.S (cs.take v.toNat) from by rw (occs := .pos [1]) [ev]; exact cutS_to _ _ (by omega)]
        have e3 : ((f + (by_ : Int) * (0 + (i : Int))) % 26).toNat = (f.toNat + by_ * i) % 26 := by
          have : f + (by_ : Int) * (0 + (i : Int)) = ((f.toNat + by_ * i : Nat) : Int) := by
            rw [Int.natCast_add, Int.natCast_mul, Int.toNat_of_nonneg f0, Int.zero_add]
          rw [this]
          omega
        rw [e3]
        show SX.S _ ++ SX.S [_] ++ SX.S _ = _
        rw [SX.S_cat, SX.S_cat]
        rfl
      refine g_addS ?_ ?_
      · show (cutS (SX.S cs) none (some v) ++ _ : Str).length + (cutS (SX.S cs) (some (v + 1)) none).length ≤ 16777216
        have l1 := cutS_length (SX.S cs) none (some v)
        have l2 := cutS_length (SX.S cs) (some (v + 1)) none
        have l3 : ∀ a b : Str, (a ++ b).length = a.length + b.length := fun a b => by rw [← SX.S_tl a, ← SX.S_tl b, SX.S_cat, SX.S_len, SX.S_len, SX.S_len, List.length_append]
        have l0 := SX.S_len cs
        rw [l3]
        show _ + 1 + _ ≤ _
        omega
      · rw [ek]
        refine lc_step hd7 hl (by show _ < 16777216; omega) fun H8 e8 c8 => ?_
        exact ⟨by rw [List.range_succ]; simp, hP7.chg c8 hn2.1 hn2.2, fun b o hb e => c8 b o (ne_of_none e hD2) (c7 b o hb e)⟩
    · rintro acc H7 hd7 ⟨rfl, hP7, c7⟩
      have hfree : H D2 = none := by
        cases e : H D2 with
        | none => rfl
        | some o =>
          have : H6 D2 = some o := c6 _ _ hn2.1.symm (s5 _ _ (c4 _ _ hn2.1.symm (c3 _ _ hn2.1.symm (c2 _ _ hn2.1.symm (c1 _ _ hn2.1.symm e)))))
          rw [hD2] at this
          cases this
      refine q D2 _ H7 (by rw [List.length_map, List.length_range]; omega) ?_ ?_ hfree hd7 hP7 (fun b o hb e => c7 b o hb (c6 b o hb (s5 b o (c4 b o hb (c3 b o hb (c2 b o hb (c1 b o hb e)))))))
      · intro s hs
        obtain ⟨k, hk, rfl⟩ := List.mem_map.mp hs
        exact nameK_is (by omega) (by omega) hcs
      · refine List.pairwise_map.mpr (List.Pairwise.imp_of_mem ?_ List.nodup_range)
        intro a b ha hb ne e
        rw [List.mem_range] at ha hb
        exact ne (nameK_inj (by omega) hbm (by omega) (by omega) e)

/-! ### pens, numbers -/
def spPen (K : PySem.W.Frag) : Sp := fun vs H Q _ => ∃ (a : Addr) (ns : List Int), vs = [.ref a] ∧ SqL K H a (ns.map V.int) ∧ ns.length ≤ 63 ∧ ∀ (pen L : Addr) (H' : Hp), H pen = none → H L = none → PenAt H' pen L → Same H H' → Q (.ref pen) H'
theorem pure_pen {K : PySem.W.Frag} {w : World} : PureOk 1 (spPen K) (t_law_pen K w) 1 := by
  refine ⟨fun vs H Q E ⟨a, ns, e, _⟩ => by rw [e]; rfl, ?_⟩
  rintro vs H Q E ⟨a, ns, rfl, hS, hl, q⟩
  show t_law_pen K w _ [some (.ref a)] H
  unfold t_law_pen
  walk_at "go"
  refine g_slL hS fun p1 H1 n1 e1 s1 => ?_
  walk_at "go"
  refine g_listL (.of e1) fun p2 H2 n2 e2 s2 => ?_
  walk_at "go"
  intro p3 H3 n3 e3 s3
  have ec : cutV (ns.map V.int) none (some 63) = ns.map V.int := by
    unfold cutV
    rw [HT.sIx_none, show (63 : Int) = ((63 : Nat) : Int) from rfl, HT.sIx_nat, List.length_map, Nat.min_eq_right hl]
    show (ns.map V.int).take ns.length = _
    rw [List.take_of_length_le (by rw [List.length_map]; exact Nat.le_refl _)]
  rw [ec] at e2
  refine q p3 p2 H3 (s1.free (s2.free n3)) (s1.free n2) ⟨ns, 0, 0, e3, s3 _ _ e2, by decide, by decide, hl⟩ (s1.trans (s2.trans s3))

def spNumber : Sp := fun vs H Q _ => ∃ (pen L : Addr), vs = [.ref pen] ∧ PenAt H pen L ∧ ∀ (n : Int) (H' : Hp), n.natAbs < 10 ^ 60 → PenAt H' pen L → Chg pen H H' → Q (.int n) H'
theorem pure_number {K : PySem.W.Frag} {w : World} : PureOk 1 spNumber (t_law_number K w spDraw) 2 := by
  refine ⟨fun vs H Q E ⟨pen, L, e, _⟩ => by rw [e]; rfl, ?_⟩
  rintro vs H Q E ⟨pen, L, rfl, hP, q⟩
  show t_law_number K w spDraw _ [some (.ref pen), none] H
  unfold t_law_number
  walk_at "go"
  refine g_draw hP (by decide) (by decide) fun way H1 w0 w1 hP1 c1 => ?_
  walk_at "go"
  refine g_ite (fun _ => ?_) (fun h8 => ?_)
  · walk_at "go"
    refine g_powI ⟨by decide, by decide, by decide⟩ ?_
    refine g_mulI (.inl ⟨by decide, by decide⟩) ?_
    walk_at "go"
    refine g_draw hP1 (by decide) (by decide) fun v H2 v0 v1 hP2 c2 => ?_
    walk_at "go"
    refine g_powI ⟨by decide, by decide, by decide⟩ ?_
    walk_at "go"
    refine q _ H2 ?_ hP2 (c1.trans c2)
    have e60 : (10 : Int) ^ (Int.toNat 60) = 10 ^ 60 := rfl
    rw [e60] at v1 ⊢
    omega
  · walk_at "go"
    refine g_ite (fun _ => ?_) (fun h7 => ?_)
    · walk_at "go"
      refine g_powI ⟨by decide, by decide, by decide⟩ ?_
      refine g_mulI (.inl ⟨by decide, by decide⟩) ?_
      walk_at "go"
      refine g_draw hP1 (by decide) (by decide) fun v H2 v0 v1 hP2 c2 => ?_
      walk_at "go"
      refine g_powI ⟨by decide, by decide, by decide⟩ ?_
      walk_at "go"
      refine q _ H2 ?_ hP2 (c1.trans c2)
      have e31 : (10 : Int) ^ (Int.toNat 31) = 10 ^ 31 := rfl
      rw [e31] at v1 ⊢
      omega
    · walk_at "go"
      refine g_draw hP1 (by decide) (by decide) fun v H2 v0 v1 hP2 c2 => ?_
      walk_at "go"
      intro p H3 np e3 s3
      walk_at "go"
      have h8' := of_decide_eq_false h8
      have h7' := of_decide_eq_false h7
      obtain ⟨u, hu, hm, _⟩ := atI_in (xs := [V.int 0, V.int 0, V.int 0, V.int 1, V.int 2, V.int 4, V.int 0]) w0 (by show way < 7; omega)
      have hu' : ∃ z : Int, u = .int z ∧ 0 ≤ z ∧ z ≤ 4 := by
        simp only [List.mem_cons, List.not_mem_nil, or_false] at hm
        rcases hm with rfl | rfl | rfl | rfl | rfl | rfl | rfl <;> exact ⟨_, rfl, by decide, by decide⟩
      obtain ⟨z, rfl, z0, z1⟩ := hu'
      refine g_ixL (.of e3) hu ?_
      walk_at "go"
      exact q _ H3 (by omega) (hP2.same s3) (c1.trans (c2.trans (.same s3)))

/-! ### cells -/
/-- a cell's tuple at v, the cells that it names -/
def CellAt (H : Hp) (v : V) (ns : List Int) : Prop := ∃ a xs, v = .ref a ∧ H a = some (.tup xs) ∧
  ((∃ (k : Str) (rest : List V), xs = .str k :: rest ∧ k ∈ [("number" : Str), "call", "bare"] ∧ ns = []) ∨
   (∃ f b, xs = [.str "function", f, .ref b] ∧ H b = some (.tup (ns.map V.int))) ∨
   (∃ k : Str, xs = .str k :: ns.map V.int ∧ ns ≠ [] ∧ k ∉ [("number" : Str), "call", "bare"] ∧ k ≠ "function"))
theorem CellAt.same {H H' : Hp} {v : V} {ns : List Int} (h : CellAt H v ns) (s : ∀ b xs, H b = some (.tup xs) → H' b = some (.tup xs)) : CellAt H' v ns := by
  obtain ⟨a, xs, e, ha, h⟩ := h
  refine ⟨a, xs, e, s _ _ ha, ?_⟩
  rcases h with h | ⟨f, b, e1, hb⟩ | h
  · exact .inl h
  · exact .inr (.inl ⟨f, b, e1, s _ _ hb⟩)
  · exact .inr (.inr h)
def spNamedBy : Sp := fun vs H Q _ => ∃ (v : V) (ns : List Int), vs = [v] ∧ CellAt H v ns ∧ ns.length ≤ 4 ∧ ∀ (l : Addr) (H' : Hp), H l = none → H' l = some (.lst (ns.map V.int)) → Same H H' → Q (.ref l) H'
theorem pure_named_by {K : PySem.W.Frag} {w : World} : PureOk 1 spNamedBy (t_named_by K w) 1 := by
  refine ⟨fun vs H Q E ⟨v, ns, e, _⟩ => by rw [e]; rfl, ?_⟩
  rintro vs H Q E ⟨_, ns, rfl, ⟨a, xs, rfl, ha, hk⟩, hl, q⟩
  show t_named_by K w _ [some (.ref a)] H
  unfold t_named_by
  walk_at "go"
  have first : ∀ {H : Hp} {Q : VK}, H a = some (.tup xs) → (∀ k : Str, xs.head? = some (.str k) → Q (.str k) H) → rIxG K w (.ref a) (.int 0) H Q := by
    intro H Q ha h
    rcases hk with ⟨k, rest, rfl, _⟩ | ⟨f, b, rfl, _⟩ | ⟨k, rfl, _⟩
    all_goals exact g_ixT (.of ha) (atI_of (by decide) rfl) (h _ rfl)
  refine first ha fun k hk0 => ?_
  walk_at "go"
  intro p H1 np e1 s1
  refine g_inT (ss := [("number" : Str), "call", "bare"]) (.of e1) ?_
  walk_at "go"
  rcases hk with ⟨k', rest, rfl, hm, rfl⟩ | ⟨f, b, rfl, hb⟩ | ⟨k', rfl, hne, hm, hf⟩
  · cases hk0
    refine g_T (decide_eq_true hm) ?_
    walk_at "go"
    intro l H2 nl e2 s2
    exact q l H2 (s1.free nl) e2 (s1.trans s2)
  · cases hk0
    refine g_F (by decide +kernel) ?_
    walk_at "go"
    refine first (s1 _ _ ha) fun k hk0 => ?_
    cases hk0
    walk_at "go"
    refine g_T (by decide +kernel) ?_
    walk_at "go"
    refine g_ixT (.of (s1 _ _ ha)) (atI_of (by decide) rfl) ?_
    walk_at "go"
    refine g_listT (.of (s1 _ _ hb)) fun l H2 nl e2 s2 => ?_
    exact q l H2 (s1.free nl) e2 (s1.trans s2)
  · cases hk0
    refine g_F (decide_eq_false hm) ?_
    walk_at "go"
    refine first (s1 _ _ ha) fun k hk0 => ?_
    cases hk0
    walk_at "go"
    refine g_F (decide_eq_false hf) ?_
    walk_at "go"
    refine g_slT (.of (s1 _ _ ha)) (by rw [show (1 : Int) = ((1 : Nat) : Int) from rfl, HT.sIx_nat, List.length_cons, List.length_map]; omega) fun p2 H2 np2 e2 s2 => ?_
    have ec : cutV (V.str k :: ns.map V.int) (some 1) none = ns.map V.int := by
      unfold cutV
      rw [show (1 : Int) = ((1 : Nat) : Int) from rfl, HT.sIx_nat, HT.sIx_none, List.length_cons, Nat.min_eq_left (by omega)]
      show ((ns.map V.int)).take _ = _
      rw [List.take_of_length_le (by omega)]
    rw [ec] at e2
    walk_at "go"
    refine g_listT (.of e2) fun l H3 nl e3 s3 => ?_
    exact q l H3 (s1.free (s2.free nl)) e3 (s1.trans (s2.trans s3))

/-- a list of drawn numbers -/
theorem drawn46 {pen L : Addr} {i : Int} {σ : L2.St} {H0 : Hp} {R : Addr → Hp → Prop} (i0 : 0 ≤ i) (i1 : i ≤ 4) (hσ : ∃ a b c d, σ = [some (.ref pen), a, b, c, d, none]) (hP0 : PenAt H0 pen L)
    (q : ∀ (d : Addr) (ns : List Int) (H' : Hp), (ns.length : Int) = i → H0 d = none → H' d = some (.lst (ns.map V.int)) → PenAt H' pen L → Chg pen H0 H' → R d H') :
    LcR (Itr 0 i.toNat) (gName 5) tYes (tCall spDraw [] E0 (tCons (tVar 0) (tCons (tC (.int 4001)) tNil))) [5] σ H0 R := by
  intro D hD
  have hn := hP0.ne hD
  obtain ⟨sa, sb, sc, sd, rfl⟩ := hσ
  refine lc_any i.toNat (fun j acc H' => ∃ ns : List Int, acc = ns.map V.int ∧ ns.length = j ∧ PenAt H' pen L ∧ Chg pen H0 H') hD
    (fun H' _ s => ⟨[], rfl, rfl, hP0.same s, .same s⟩) (fun i acc H' hi _ => hi) (fun acc H' _ => Nat.le_refl _) ?_ ?_
  · rintro j x acc H7 _ hj hl ⟨ns, rfl, hns, hP7, c7⟩ hd7 ⟨rfl, rfl⟩
    walk_at "go"
    refine ⟨rfl, ?_⟩
    walk_at "go"
    refine g_T rfl ?_
    walk_at "go"
    refine g_draw hP7 (by decide) (by decide) fun v H8 v0 v1 hP8 c8 => ?_
    refine lc_step (c8 _ _ hn.1.symm hd7) hl (by show _ < 16777216; omega) fun H9 e9 c9 => ?_
    exact ⟨ns ++ [v], by simp, by simp [hns], hP8.chg c9 hn.1 hn.2, fun b o hb e => c9 b o (ne_of_none e hD) (c8 b o hb (c7 b o hb e))⟩
  · rintro acc H7 hd7 ⟨ns, rfl, hns, hP7, c7⟩
    exact q D ns H7 (by omega) hD hd7 hP7 c7
/-- a cell with what is due: a tuple of both -/
def spCell : Sp := fun vs H Q _ => ∃ (pen L : Addr), vs = [.ref pen] ∧ PenAt H pen L ∧ ∀ (p : Addr) (v : V) (l : Addr) (ns : List Int) (H' : Hp), H' p = some (.tup [v, .ref l]) → CellAt H' v ns → ns.length ≤ 4 → H l = none → H' l = some (.lst (ns.map V.int)) → PenAt H' pen L → Chg pen H H' → Q (.ref p) H'
def kinds46 : List Str := ["number", "call", "bare", "same", "left", "right", "give", "plus", "less", "times", "below", "pair", "when", "function"]
theorem kinds46_eq : Txt.split (Str.ofString "number call bare same left right give plus less times below pair when function") (Str.ofString " ") = kinds46 := by decide +kernel
def kvs46 : List (Key × V) := [(.inr "number", .int 0), (.inr "call", .int 0), (.inr "bare", .int 0), (.inr "same", .int 1), (.inr "left", .int 1), (.inr "right", .int 1), (.inr "when", .int 3)]
def many46 (k : Str) : Int := match (valV (mergeK [] kvs46) (Sum.inr k)).getD (.int 2) with
  | .int i => i
  | _ => 0
theorem many46_eq : ∀ k ∈ kinds46, (valV (mergeK [] kvs46) (Sum.inr k)).getD (.int 2) = .int (many46 k) := by decide +kernel
theorem many46_in : ∀ k ∈ kinds46, 0 ≤ many46 k ∧ many46 k ≤ 3 ∧ (k ≠ "number" → k ≠ "bare" → k ≠ "call" → k ≠ "function" → 1 ≤ many46 k ∧ k ∉ [("number" : Str), "call", "bare"]) := by decide +kernel
theorem pure_cell {K : PySem.W.Frag} {w : World} : PureOk 1 spCell (t_law_cell K w spDraw spNumber spNames) 6 := by
  refine ⟨fun vs H Q E ⟨pen, L, e, _⟩ => by rw [e]; rfl, ?_⟩
  rintro vs H Q E ⟨pen, L, rfl, hP, q⟩
  show t_law_cell K w _ _ _ _ [some (.ref pen), none, none, none, none, none] H
  unfold t_law_cell
  walk_at "go"
  refine ⟨_, _, rfl, rfl, by decide +kernel, by decide +kernel, fun p1 H1 n1 e1 s1 => ?_⟩
  rw [kinds46_eq] at e1
  have hP1 := hP.same s1
  walk_at "go"
  refine g_draw hP1 (by decide) (by decide) fun y H2 y0 y1 hP2 c2 => ?_
  have np1 := hP.ne n1
  obtain ⟨u, hu, hm, hi⟩ := atI_in (xs := kinds46.map V.str) y0 y1
  obtain ⟨k, hk, rfl⟩ := List.mem_map.mp hm
  clear hi hm
  refine g_ixL (.of (c2 _ _ np1.1.symm e1)) hu ?_
  walk_at "go"
  intro p3 H3 n3 e3 s3
  walk_at "go"
  refine g_pairs kvs46 e3 rfl (by decide) fun H4 e4 c4 => ?_
  have hP4 := (hP2.same s3).chg c4 (hP2.ne n3).1 (hP2.ne n3).2
  have f4 : Chg pen H H4 := fun b o hb e => c4 b o (ne_of_none (c2 b o hb (s1 _ _ e)) n3) (s3 _ _ (c2 b o hb (s1 _ _ e)))
  refine g_isd e4 ?_
  walk_at "go"
  refine g_dget e4 (k := Sum.inr k) rfl ?_
  rw [many46_eq k hk]
  obtain ⟨m0, m1, mk⟩ := many46_in k hk
  clear e4 c4 e3 s3 hu e1 s1 c2
  walk_at "go"
  refine g_isrng (by omega) (by omega) ?_
  refine drawn46 m0 (by omega) ⟨_, _, _, _, rfl⟩ hP4 fun l ns H5 hns nl5 e5 hP5 c5 => ?_
  have f5 : Chg pen H H5 := f4.trans c5
  have hln := hP4.ne nl5
  have nl : H l = none := by
    cases e : H l with
    | none => rfl
    | some o =>
      have := f4 l o hln.1.symm e
      rw [nl5] at this
      cases this
  walk_at "go"
  -- a new place of now was free at first
  have free : ∀ {H' : Hp} {p : Addr}, Chg pen H H' → PenAt H' pen L → H' p = none → H p = none := by
    intro H' p c hP' hp
    cases e : H p with
    | none => rfl
    | some o =>
      have := c p o (hP'.ne hp).1.symm e
      rw [hp] at this
      cases this
  refine g_ite (fun hn => ?_) (fun hn => ?_)
  · walk_at "go"
    refine ⟨pen, L, rfl, hP5, fun n H6 _ hP6 c6 => ?_⟩
    walk_at "go"
    intro a H7 na ea s7
    walk_at "go"
    intro d H8 nd ed s8
    walk_at "go"
    intro p H9 np ep s9
    have hP7 := hP6.same s7
    exact q p (.ref a) d [] H9 ep ⟨a, _, rfl, s9 _ _ (s8 _ _ ea), .inl ⟨"number", [.int n], rfl, by decide +kernel, rfl⟩⟩ (by decide) (free ((f5.trans c6).trans (.same s7)) hP7 nd) (s9 _ _ ed) ((hP7.same s8).same s9) ((f5.trans c6).trans ((Chg.same s7).trans ((Chg.same s8).trans (.same s9))))
  · walk_at "go"
    refine g_ite (fun hb => ?_) (fun hb => ?_)
    · walk_at "go"
      intro a H7 na ea s7
      walk_at "go"
      intro d H8 nd ed s8
      walk_at "go"
      intro p H9 np ep s9
      have hP7 := hP5.same s7
      exact q p (.ref a) d [] H9 ep ⟨a, _, rfl, s9 _ _ (s8 _ _ ea), .inl ⟨"bare", [], rfl, by decide +kernel, rfl⟩⟩ (by decide) (free (f5.trans (.same s7)) hP7 nd) (s9 _ _ ed) ((hP7.same s8).same s9) (f5.trans ((Chg.same s7).trans ((Chg.same s8).trans (.same s9))))
    · walk_at "go"
      refine g_ite (fun hc => ?_) (fun hc => ?_)
      · walk_at "go"
        refine ⟨pen, L, 1, rfl, hP5, by decide, by decide, fun dn ss H6 hss _ _ ndn edn hP6 c6 => ?_⟩
        walk_at "go"
        obtain ⟨x, rfl⟩ : ∃ x, ss = [x] := by
          match ss, hss with
          | [x], _ => exact ⟨x, rfl⟩
        refine g_ixL (.of edn) (v := .str x) rfl ?_
        walk_at "go"
        intro e1 H7 ne1 ee1 s7
        walk_at "go"
        refine g_draw (hP6.same s7) (by decide) (by decide) fun v H8 v0 v1 hP8 c8 => ?_
        obtain ⟨z, hz⟩ : ∃ z, atI [V.str x, V.str ""] v = some z := by
          obtain ⟨u, h1, _⟩ := atI_in (xs := [V.str x, V.str ""]) v0 v1
          exact ⟨u, h1⟩
        refine g_ixL (.of (c8 _ _ (hP6.ne ne1).1.symm ee1)) hz ?_
        walk_at "go"
        intro a H9 na ea s9
        walk_at "go"
        intro d H10 nd ed s10
        walk_at "go"
        intro p H11 np ep s11
        have hP9 := hP8.same s9
        have f9 : Chg pen H H9 := (f5.trans c6).trans ((Chg.same s7).trans (c8.trans (.same s9)))
        exact q p (.ref a) d [] H11 ep ⟨a, _, rfl, s11 _ _ (s10 _ _ ea), .inl ⟨"call", [z], rfl, by decide +kernel, rfl⟩⟩ (by decide) (free f9 hP9 nd) (s11 _ _ ed) ((hP9.same s10).same s11) (f9.trans ((Chg.same s10).trans (.same s11)))
      · walk_at "go"
        refine g_ite (fun hf => ?_) (fun hf => ?_)
        · walk_at "go"
          refine g_draw hP5 (by decide) (by decide) fun v H6 v0 v1 hP6 c6 => ?_
          walk_at "go"
          refine g_isrng (by omega) (by omega) ?_
          refine drawn46 v0 (by omega) ⟨_, _, _, _, rfl⟩ hP6 fun l2 ns2 H7 hns2 nl2 e7 hP7 c7 => ?_
          have f7 : Chg pen H H7 := (f5.trans c6).trans c7
          walk_at "go"
          refine ⟨pen, L, 1, rfl, hP7, by decide, by decide, fun dn ss H8 hss _ _ ndn edn hP8 c8 => ?_⟩
          walk_at "go"
          obtain ⟨x, rfl⟩ : ∃ x, ss = [x] := by
            match ss, hss with
            | [x], _ => exact ⟨x, rfl⟩
          refine g_ixL (.of edn) (v := .str x) rfl ?_
          walk_at "go"
          have el2 := c8 _ _ (hP6.ne nl2).1.symm e7
          refine g_tupleL (.of el2) fun t H9 nt et s9 => ?_
          walk_at "go"
          intro a H10 na ea s10
          walk_at "go"
          intro p H11 np ep s11
          have f11 : Chg pen H H11 := f7.trans (c8.trans ((Chg.same s9).trans ((Chg.same s10).trans (.same s11))))
          exact q p (.ref a) l2 ns2 H11 ep ⟨a, _, rfl, s11 _ _ ea, .inr (.inl ⟨.str x, t, rfl, s11 _ _ (s10 _ _ et)⟩)⟩ (by omega) (free (f5.trans c6) hP6 nl2) (s11 _ _ (s10 _ _ (s9 _ _ el2))) (((hP8.same s9).same s10).same s11) f11
        · walk_at "go"
          intro l1 H6 nl1 el1 s6
          walk_at "go"
          refine g_addL el1 (s6 _ _ e5) (by show _ ≤ 16777216; rw [List.length_map, List.length_singleton]; omega) fun l3 H7 nl3 el3 s7 => ?_
          walk_at "go"
          refine g_tupleL (.of el3) fun t H8 nt et s8 => ?_
          walk_at "go"
          intro p H9 np ep s9
          obtain ⟨h1, h2⟩ := mk (of_decide_eq_false hn) (of_decide_eq_false hb) (of_decide_eq_false hc) (of_decide_eq_false hf)
          have f9 : Chg pen H H9 := f5.trans ((Chg.same s6).trans ((Chg.same s7).trans ((Chg.same s8).trans (.same s9))))
          exact q p (.ref t) l ns H9 ep ⟨t, _, rfl, s9 _ _ et, .inr (.inr ⟨k, rfl, by rintro rfl; rw [List.length_nil] at hns; omega, h2, of_decide_eq_false hf⟩)⟩ (by omega) nl (s9 _ _ (s8 _ _ (s7 _ _ (s6 _ _ e5)))) ((((hP5.same s6).same s7).same s8).same s9) f9
/-! ### the law -/
def spLaw (K : PySem.W.Frag) : Sp := fun vs H Q _ => ∃ (a : Addr) (ns : List Int), vs = [.ref a] ∧ SqL K H a (ns.map V.int) ∧ ns.length ≤ 63 ∧ ∀ H' : Hp, Q (.bl true) H'
theorem pure_law {K : PySem.W.Frag} {w : World} : PureOk 1 (spLaw K) (t_law K w (spPen K) spCell spNamedBy) 6 := by
  refine ⟨fun vs H Q E ⟨a, ns, e, _⟩ => by rw [e]; rfl, ?_⟩
  rintro vs H Q E ⟨a, ns, rfl, hS, hl, q⟩
  show t_law K w _ _ _ _ [some (.ref a), none, none, none, none, none] H
  unfold t_law
  walk_at "go"
  refine ⟨a, ns, rfl, hS, hl, fun pen L H1 _ _ hP s1 => ?_⟩
  walk_at "go"
  refine g_isrng (by decide) (by decide) ?_
  refine for_any 20 (fun i σ H' => (∃ x y z u, σ = [some (.ref a), some (.ref pen), x, y, z, u]) ∧ PenAt H' pen L) ⟨⟨_, _, _, _, rfl⟩, hP⟩ (fun i σ H' hi _ => hi) (fun σ H' _ => Nat.le_refl _) ?_ ?_
  · rintro i x σ H2 _ hi ⟨⟨x1, x2, x3, x4, rfl⟩, hP2⟩ ⟨rfl, rfl⟩
    walk_at "go"
    refine ⟨pen, L, rfl, hP2, fun p v l ns' H3 ep hC hn nl el hP3 c3 => ?_⟩
    refine ⟨p, _, rfl, .of ep, rfl, _, _, rfl, ?_⟩
    walk_at "go"
    refine ⟨_, _, rfl, ?_⟩
    walk_at "go"
    refine ⟨rfl, ?_⟩
    walk_at "go"
    refine ⟨v, ns', rfl, hC, hn, fun f H4 nf ef s4 => ?_⟩
    walk_at "go"
    refine g_isi (r := true) (.lst ef) (by decide +kernel) ?_
    walk_at "go"
    refine g_F rfl ?_
    walk_at "go"
    refine g_neD (.lst (.of ef) (dp_ints ns')) (.lst (.of (s4 _ _ el)) (dp_ints ns')) (shaped_ints _) (shaped_ints _) ?_
    rw [PySem.SeqAt.eqv_refl _ (SeqAt.canLay_of_shaped (shaped_ints ns'))]
    walk_at "go"
    refine g_F rfl ?_
    walk_at "go"
    refine g_tyl (.of ef) ?_
    walk_at "go"
    refine g_append ef (by rw [List.length_map]; show _ < 16777216; omega) fun H5 e5 c5 => ?_
    have hP4 := hP3.same s4
    have hnf := hP3.ne nf
    walk_at "go"
    have hC5 : CellAt H5 v ns' := hC.same fun b xs e => c5 _ _ (ne_of_none e nf) (s4 _ _ e)
    refine ⟨v, ns', rfl, hC5, hn, fun g H6 ng eg s6 => ?_⟩
    walk_at "go"
    refine g_neD (.lst (.of eg) (dp_ints ns')) (.lst (.of (s6 _ _ (c5 _ _ (ne_of_none el nf) (s4 _ _ el)))) (dp_ints ns')) (shaped_ints _) (shaped_ints _) ?_
    rw [PySem.SeqAt.eqv_refl _ (SeqAt.canLay_of_shaped (shaped_ints ns'))]
    walk_at "go"
    refine g_F rfl ?_
    walk_at "go"
    exact ⟨⟨_, _, _, _, rfl⟩, (hP4.chg c5 hnf.1 hnf.2).same s6⟩
  · rintro σ H' ⟨⟨x1, x2, x3, x4, rfl⟩, _⟩
    walk_at "go"
    exact q H'

/-! ### the row -/
def topS (i : Nat) : Stmt := PySem.Challenge.pw_lazywebs_k46_cells_named.main.body.getD i (.Pass ⟨0, 0, 0, 0⟩)
structure TX (w : World) (K : PySem.W.Frag) (mg : Str → Option Value) : Prop where
  d_named_by : ∃ fd, FunD K "named_by" "named_by" (defArgs (topS 1)) (defBody (topS 1)) (defScope (topS 1)) [] [] (He.ga K "named_by") fd
  f_named_by : mg "named_by" = some (.ref (He.ga K "named_by"))
  d_law_pen : ∃ fd, FunD K "_law_pen" "_law_pen" (defArgs (topS 3)) (defBody (topS 3)) (defScope (topS 3)) [] [] (He.ga K "_law_pen") fd
  f_law_pen : mg "_law_pen" = some (.ref (He.ga K "_law_pen"))
  d_law_draw : ∃ fd, FunD K "_law_draw" "_law_draw" (defArgs (topS 4)) (defBody (topS 4)) (defScope (topS 4)) [] [] (He.ga K "_law_draw") fd
  f_law_draw : mg "_law_draw" = some (.ref (He.ga K "_law_draw"))
  d_law_names : ∃ fd, FunD K "_law_names" "_law_names" (defArgs (topS 5)) (defBody (topS 5)) (defScope (topS 5)) [] [] (He.ga K "_law_names") fd
  f_law_names : mg "_law_names" = some (.ref (He.ga K "_law_names"))
  d_law_number : ∃ fd, FunD K "_law_number" "_law_number" (defArgs (topS 6)) (defBody (topS 6)) (defScope (topS 6)) [] [] (He.ga K "_law_number") fd
  f_law_number : mg "_law_number" = some (.ref (He.ga K "_law_number"))
  d_law_cell : ∃ fd, FunD K "_law_cell" "_law_cell" (defArgs (topS 7)) (defBody (topS 7)) (defScope (topS 7)) [] [] (He.ga K "_law_cell") fd
  f_law_cell : mg "_law_cell" = some (.ref (He.ga K "_law_cell"))
  d_law : ∃ fd, FunD K "law" "law" (defArgs (topS 8)) (defBody (topS 8)) (defScope (topS 8)) [] [] (He.ga K "law") fd
  f_law : mg "law" = some (.ref (He.ga K "law"))
  n_list : mg "list" = none
  n_len : mg "len" = none
  n_max : mg "max" = none
  n_abs : mg "abs" = none
  n_range : mg "range" = none
  n_tuple : mg "tuple" = none
  n_isinstance : mg "isinstance" = none
abbrev st_named_by : Stmt := topS 1
theorem sc_named_by : FnScope ["cell"] ["cell"] (defScope st_named_by) := ⟨rfl, rfl, rfl, by decide +kernel, rfl, by decide +kernel, by decide +kernel⟩
theorem mk_named_by {P : Program} {w : World} {K : PySem.W.Frag} {mg : Str → Option Value} {base : Heap} (T : TX w K mg) {j : Nat} {sp : Sp}
    (pure_ : PureOk 1 sp (t_named_by K w ) 1) : Cal P w K mg base (j + 1) "named_by" sp := by
  obtain ⟨fd, F⟩ := T.d_named_by
  refine cal_mk F T.f_named_by sc_named_by (F.bindsN fun _ _ _ _ _ _ us hl => match us, hl with | [_], _ => rfl) pure_.len fun cdv A outer s H vs Q E hr h => ?_
  refine ⟨t_named_by K w , PSs.nox ?_, pure_.run vs H Q E h⟩
  exact (pss_cons (ps_if (pt_cmpR (op_inG (hu_of hr)) (pe_ixG (hu_of hr) (pv 0) pe_int (fun _ _ => rfl)) (pe_tupN (pa_cons pe_str (pa_cons pe_str (pa_cons pe_str pa_nil)))) (by rfl)) (pss_one (ps_ret (pe_lstN pa_nil))) pss_nil)
  (pss_cons (ps_if (pt_cmpR (op_eqG hr.units) (pe_ixG (hu_of hr) (pv 0) pe_int (fun _ _ => rfl)) pe_str (nomark _)) (pss_one (ps_ret (pe_callTy (call_listG rfl) (by rfl) T.n_list (by decide +kernel) (pa_cons (pe_ixG (hu_of hr) (pv 0) pe_int (fun _ _ => rfl)) pa_nil)))) pss_nil)
  (pss_one (ps_ret (pe_callTy (call_listG rfl) (by rfl) T.n_list (by decide +kernel) (pa_cons (pe_slice sl_any (pv 0) (po_some pe_int) po_none) pa_nil))))))
abbrev st_law_pen : Stmt := topS 3
theorem sc_law_pen : FnScope ["_law_script"] ["_law_script"] (defScope st_law_pen) := ⟨rfl, rfl, rfl, by decide +kernel, rfl, by decide +kernel, by decide +kernel⟩
theorem mk_law_pen {P : Program} {w : World} {K : PySem.W.Frag} {mg : Str → Option Value} {base : Heap} (T : TX w K mg) {j : Nat} {sp : Sp}
    (pure_ : PureOk 1 sp (t_law_pen K w ) 1) : Cal P w K mg base (j + 1) "_law_pen" sp := by
  obtain ⟨fd, F⟩ := T.d_law_pen
  refine cal_mk F T.f_law_pen sc_law_pen (F.bindsN fun _ _ _ _ _ _ us hl => match us, hl with | [_], _ => rfl) pure_.len fun cdv A outer s H vs Q E hr h => ?_
  refine ⟨t_law_pen K w , PSs.nox ?_, pure_.run vs H Q E h⟩
  exact (pss_one (ps_ret (pe_lstN (pa_cons (pe_callTy (call_listG rfl) (by rfl) T.n_list (by decide +kernel) (pa_cons (pe_slice sl_any (pv 0) po_none (po_some pe_int)) pa_nil)) (pa_cons pe_int (pa_cons pe_int pa_nil))))))
abbrev st_law_draw : Stmt := topS 4
theorem sc_law_draw : FnScope ["_law_pen_here", "_law_many", "_law_digit", "_law_at", "_law_cell_here", "_law_prime", "_law_number_here"] ["_law_pen_here", "_law_many"] (defScope st_law_draw) := ⟨rfl, rfl, rfl, by decide +kernel, rfl, by decide +kernel, by decide +kernel⟩
theorem mk_law_draw {P : Program} {w : World} {K : PySem.W.Frag} {mg : Str → Option Value} {base : Heap} (T : TX w K mg) {j : Nat} {sp : Sp}
    (pure_ : PureOk 2 sp (t_law_draw K w ) 7) : Cal P w K mg base (j + 1) "_law_draw" sp := by
  obtain ⟨fd, F⟩ := T.d_law_draw
  refine cal_mk F T.f_law_draw sc_law_draw (F.bindsN fun _ _ _ _ _ _ us hl => match us, hl with | [_, _], _ => rfl) pure_.len fun cdv A outer s H vs Q E hr h => ?_
  refine ⟨t_law_draw K w , PSs.nox ?_, pure_.run vs H Q E h⟩
  exact (pss_cons (ps_if (pt_cmpR op_gt (pe_ixG (hu_of hr) (pv 0) pe_int (fun _ _ => rfl)) pe_int (nomark _)) (pss_cons (ps_set (i := 2) sc_law_draw.nd rfl (Or.inl rfl) (pe_op op_mod (pe_ixG (hu_of hr) (pv 0) pe_int (fun _ _ => rfl)) (pv 1)))
  (pss_cons (ps_asg (pe_op op_fdivW (pe_ixG (hu_of hr) (pv 0) pe_int (fun _ _ => rfl)) (pv 1)) (pg_sub (pv 0) pe_int (set_any (hu_of hr))))
  (pss_one (ps_ret (pv 2))))) pss_nil)
  (pss_cons (ps_set (i := 3) sc_law_draw.nd rfl (Or.inl rfl) (pe_ixG (hu_of hr) (pv 0) pe_int (fun _ _ => rfl)))
  (pss_cons (ps_asg (pe_op op_addG (pv 3) pe_int) (pg_sub (pv 0) pe_int (set_any (hu_of hr))))
  (pss_cons (ps_set (i := 4) sc_law_draw.nd rfl (Or.inl rfl) (pe_ixG (hu_of hr) (pe_op op_addG (pe_ixG (hu_of hr) (pv 0) pe_int (fun _ _ => rfl)) (pe_lstN (pa_cons pe_int pa_nil))) (pe_op op_mod (pv 3) (pe_callB (call_max2 rfl) (by rfl) T.n_max (by decide +kernel) (pa_cons pe_int (pa_cons (pe_callB call_lenG (by rfl) T.n_len (by decide +kernel) (pa_cons (pe_ixG (hu_of hr) (pv 0) pe_int (fun _ _ => rfl)) pa_nil)) pa_nil)))) (fun _ _ => rfl)))
  (pss_cons (ps_if (PW.pt (pw_and (pt_cmpR op_lt (pv 3) (pe_callB call_lenG (by rfl) T.n_len (by decide +kernel) (pa_cons (pe_ixG (hu_of hr) (pv 0) pe_int (fun _ _ => rfl)) pa_nil)) (nomark _)) (pw_and1 (pt_cmpR op_ge (pe_callB call_abs (by rfl) T.n_abs (by decide +kernel) (pa_cons (pv 4) pa_nil)) (pe_op op_pow pe_int pe_int) (nomark _))))) (pss_cons (ps_asg (pe_op op_fdivW (pe_callB call_abs (by rfl) T.n_abs (by decide +kernel) (pa_cons (pv 4) pa_nil)) (pv 1)) (pg_sub (pv 0) pe_int (set_any (hu_of hr))))
  (pss_one (ps_ret (pe_op op_mod (pe_callB call_abs (by rfl) T.n_abs (by decide +kernel) (pa_cons (pv 4) pa_nil)) (pv 1))))) pss_nil)
  (pss_cons (ps_set (i := 5) sc_law_draw.nd rfl (Or.inl rfl) (pe_ixG (hu_of hr) (pe_lstN (pa_cons pe_int (pa_cons pe_int (pa_cons pe_int (pa_cons pe_int (pa_cons pe_int (pa_cons pe_int (pa_cons pe_int pa_nil)))))))) (pe_op op_mod (pv 3) pe_int) (fun _ _ => rfl)))
  (pss_cons (ps_set (i := 6) sc_law_draw.nd rfl (Or.inl rfl) (pe_op op_mod (pe_op op_mulG (pe_op op_addG (pe_op op_addG (pe_op op_mod (pv 4) pe_int) (pe_op op_mulG pe_int (pv 3))) pe_int) pe_int) (pv 5)))
  (pss_cons (ps_set (i := 6) sc_law_draw.nd rfl (Or.inl rfl) (pe_op op_mod (pe_op op_addG (pe_op op_addG (pe_op op_mulG (pv 6) (pv 6)) (pe_op op_mulG pe_int (pv 6))) (pv 3)) pe_int))
  (pss_cons (ps_set (i := 6) sc_law_draw.nd rfl (Or.inl rfl) (pe_op op_mod (pe_op op_mulG (pv 6) pe_int) pe_int))
  (pss_cons (ps_if (pt_cmpR op_gt (pv 1) (pe_op op_pow pe_int pe_int) (nomark _)) (pss_one (ps_set (i := 6) sc_law_draw.nd rfl (Or.inl rfl) (pe_op op_pow (pv 6) pe_int))) pss_nil)
  (pss_one (ps_ret (pe_op op_mod (pe_op op_fdivW (pv 6) pe_int) (pv 1))))))))))))))
abbrev st_law_names : Stmt := topS 5
theorem sc_law_names : FnScope ["_law_pen_here", "_law_many", "_law_letters", "_law_word", "_law_k", "_law_at", "_law_first", "_law_by"] ["_law_pen_here", "_law_many"] (defScope st_law_names) := ⟨rfl, rfl, rfl, by decide +kernel, rfl, by decide +kernel, by decide +kernel⟩
theorem mk_law_names {P : Program} {w : World} {K : PySem.W.Frag} {mg : Str → Option Value} {base : Heap} (T : TX w K mg) {j : Nat} {sp : Sp} {s_law_draw : Sp} (c_law_draw : Cal P w K mg base j "_law_draw" s_law_draw)
    (pure_ : PureOk 2 sp (t_law_names K w s_law_draw) 8) : Cal P w K mg base (j + 1) "_law_names" sp := by
  obtain ⟨fd, F⟩ := T.d_law_names
  refine cal_mk F T.f_law_names sc_law_names (F.bindsN fun _ _ _ _ _ _ us hl => match us, hl with | [_, _], _ => rfl) pure_.len fun cdv A outer s H vs Q E hr h => ?_
  refine ⟨t_law_names K w s_law_draw, PSs.nox ?_, pure_.run vs H Q E h⟩
  exact (pss_cons (ps_set (i := 2) sc_law_names.nd rfl (Or.inr rfl) pe_str)
  (pss_cons (ps_set (i := 3) sc_law_names.nd rfl (Or.inr rfl) (pe_join pe_str (pe_lc (own := [("_law_k", 4)]) (g := (gName 4)) (tt := tYes) rfl sc_law_names.nd (pi_range1 (by rfl) T.n_range (pa_cons (pe_op op_addG pe_int (pe_cal c_law_draw hr rfl (pa_cons (pv 0) (pa_cons pe_int pa_nil)))) pa_nil)) (blkOk_by (by kernel_rfl)) (fun _ _ _ _ _ => (pg_name (i := 4) sc_law_names.nd rfl (by first | exact Or.inl rfl | exact Or.inr rfl))) (fun _ _ _ _ _ => pts_nil) (fun _ _ _ _ _ => (pe_ixG (hu_of hr) (pv 2) (pe_cal c_law_draw hr rfl (pa_cons (pv 0) (pa_cons pe_int pa_nil))) (fun _ _ => rfl))))))
  (pss_cons (ps_set (i := 5) sc_law_names.nd rfl (Or.inr rfl) (pe_cal c_law_draw hr rfl (pa_cons (pv 0) (pa_cons (pe_callB call_lenG (by rfl) T.n_len (by decide +kernel) (pa_cons (pv 3) pa_nil)) pa_nil))))
  (pss_cons (ps_set (i := 6) sc_law_names.nd rfl (Or.inr rfl) (pe_cal c_law_draw hr rfl (pa_cons (pv 0) (pa_cons pe_int pa_nil))))
  (pss_cons (ps_set (i := 7) sc_law_names.nd rfl (Or.inr rfl) (pe_ixG (hu_of hr) (pe_lstN (pa_cons pe_int (pa_cons pe_int (pa_cons pe_int (pa_cons pe_int (pa_cons pe_int (pa_cons pe_int pa_nil))))))) (pe_cal c_law_draw hr rfl (pa_cons (pv 0) (pa_cons pe_int pa_nil))) (fun _ _ => rfl)))
  (pss_one (ps_ret (pe_lc (own := [("_law_k", 4)]) (g := (gName 4)) (tt := tYes) rfl sc_law_names.nd (pi_range1 (by rfl) T.n_range (pa_cons (pv 1) pa_nil)) (blkOk_by (by kernel_rfl)) (fun _ _ _ _ _ => (pg_name (i := 4) sc_law_names.nd rfl (by first | exact Or.inl rfl | exact Or.inr rfl))) (fun _ _ _ _ _ => pts_nil) (fun _ _ _ _ _ => (pe_op op_addG (pe_op op_addG (pe_slice sl_any (pv 3) po_none (po_some (pv 5))) (pe_ixG (hu_of hr) (pv 2) (pe_op op_mod (pe_op op_addG (pv 6) (pe_op op_mulG (pv 7) (pv 4))) pe_int) (fun _ _ => rfl))) (pe_slice sl_any (pv 3) (po_some (pe_op op_addG (pv 5) pe_int)) po_none)))))))))))
abbrev st_law_number : Stmt := topS 6
theorem sc_law_number : FnScope ["_law_pen_here", "_law_way"] ["_law_pen_here"] (defScope st_law_number) := ⟨rfl, rfl, rfl, by decide +kernel, rfl, by decide +kernel, by decide +kernel⟩
theorem mk_law_number {P : Program} {w : World} {K : PySem.W.Frag} {mg : Str → Option Value} {base : Heap} (T : TX w K mg) {j : Nat} {sp : Sp} {s_law_draw : Sp} (c_law_draw : Cal P w K mg base j "_law_draw" s_law_draw)
    (pure_ : PureOk 1 sp (t_law_number K w s_law_draw) 2) : Cal P w K mg base (j + 1) "_law_number" sp := by
  obtain ⟨fd, F⟩ := T.d_law_number
  refine cal_mk F T.f_law_number sc_law_number (F.bindsN fun _ _ _ _ _ _ us hl => match us, hl with | [_], _ => rfl) pure_.len fun cdv A outer s H vs Q E hr h => ?_
  refine ⟨t_law_number K w s_law_draw, PSs.nox ?_, pure_.run vs H Q E h⟩
  exact (pss_cons (ps_set (i := 1) sc_law_number.nd rfl (Or.inl rfl) (pe_cal c_law_draw hr rfl (pa_cons (pv 0) (pa_cons pe_int pa_nil))))
  (pss_cons (ps_if (pt_cmpR (op_eqG hr.units) (pv 1) pe_int (nomark _)) (pss_one (ps_ret (pe_op op_addG (pe_op op_sub (pe_cal c_law_draw hr rfl (pa_cons (pv 0) (pa_cons (pe_op op_sub (pe_op op_mulG pe_int (pe_op op_pow pe_int pe_int)) pe_int) pa_nil))) (pe_op op_pow pe_int pe_int)) pe_int))) pss_nil)
  (pss_cons (ps_if (pt_cmpR (op_eqG hr.units) (pv 1) pe_int (nomark _)) (pss_one (ps_ret (pe_op op_sub (pe_cal c_law_draw hr rfl (pa_cons (pv 0) (pa_cons (pe_op op_mulG pe_int (pe_op op_pow pe_int pe_int)) pa_nil))) (pe_op op_pow pe_int pe_int)))) pss_nil)
  (pss_one (ps_ret (pe_op op_sub (pe_cal c_law_draw hr rfl (pa_cons (pv 0) (pa_cons pe_int pa_nil))) (pe_ixG (hu_of hr) (pe_lstN (pa_cons pe_int (pa_cons pe_int (pa_cons pe_int (pa_cons pe_int (pa_cons pe_int (pa_cons pe_int (pa_cons pe_int pa_nil)))))))) (pv 1) (fun _ _ => rfl))))))))
abbrev st_law_cell : Stmt := topS 7
theorem sc_law_cell : FnScope ["_law_pen_here", "_law_kinds", "_law_kind", "_law_many", "_law_named", "_law_k"] ["_law_pen_here"] (defScope st_law_cell) := ⟨rfl, rfl, rfl, by decide +kernel, rfl, by decide +kernel, by decide +kernel⟩
theorem mk_law_cell {P : Program} {w : World} {K : PySem.W.Frag} {mg : Str → Option Value} {base : Heap} (T : TX w K mg) {j : Nat} {sp : Sp} {s_law_draw s_law_number s_law_names : Sp} (c_law_draw : Cal P w K mg base j "_law_draw" s_law_draw) (c_law_number : Cal P w K mg base j "_law_number" s_law_number) (c_law_names : Cal P w K mg base j "_law_names" s_law_names)
    (pure_ : PureOk 1 sp (t_law_cell K w s_law_draw s_law_number s_law_names) 6) : Cal P w K mg base (j + 1) "_law_cell" sp := by
  obtain ⟨fd, F⟩ := T.d_law_cell
  refine cal_mk F T.f_law_cell sc_law_cell (F.bindsN fun _ _ _ _ _ _ us hl => match us, hl with | [_], _ => rfl) pure_.len fun cdv A outer s H vs Q E hr h => ?_
  refine ⟨t_law_cell K w s_law_draw s_law_number s_law_names, PSs.nox ?_, pure_.run vs H Q E h⟩
  exact (pss_cons (ps_set (i := 1) sc_law_cell.nd rfl (Or.inl rfl) (pe_splitG pe_str pe_str))
  (pss_cons (ps_set (i := 2) sc_law_cell.nd rfl (Or.inl rfl) (pe_ixG (hu_of hr) (pv 1) (pe_cal c_law_draw hr rfl (pa_cons (pv 0) (pa_cons pe_int pa_nil))) (fun _ _ => rfl)))
  (pss_cons (ps_set (i := 3) sc_law_cell.nd rfl (Or.inl rfl) (pe_dget2 (hu_of hr) (pe_dispN (pps_cons (pe_cl pe_str) (pe_cl pe_int) (pps_cons (pe_cl pe_str) (pe_cl pe_int) (pps_cons (pe_cl pe_str) (pe_cl pe_int) (pps_cons (pe_cl pe_str) (pe_cl pe_int) (pps_cons (pe_cl pe_str) (pe_cl pe_int) (pps_cons (pe_cl pe_str) (pe_cl pe_int) (pps_cons (pe_cl pe_str) (pe_cl pe_int) pps_nil))))))) (by rfl) (by rfl) (fun z => by cases z) (by decide)) (pv 2) pe_int ⟨rfl, rfl, rfl, rfl⟩))
  (pss_cons (ps_setLc (i := 4) (own := [("_law_k", 5)]) (g := (gName 5)) (tt := tYes) rfl sc_law_cell.nd rfl rfl (sw_true rfl rfl rfl (by decide +kernel)) (pi_range1 (by rfl) T.n_range (pa_cons (pv 3) pa_nil)) (blkOk_by (by kernel_rfl)) (fun _ _ _ _ _ => (pg_name (i := 5) sc_law_cell.nd rfl (by first | exact Or.inl rfl | exact Or.inr rfl))) (fun _ _ _ _ _ => pts_nil) (fun _ _ _ _ _ => (pe_cal c_law_draw hr rfl (pa_cons (pv 0) (pa_cons pe_int pa_nil)))))
  (pss_cons (ps_if (pt_cmpR (op_eqG hr.units) (pv 2) pe_str (nomark _)) (pss_one (ps_ret (pe_tupN (pa_cons (pe_tupN (pa_cons pe_str (pa_cons (pe_cal c_law_number hr rfl (pa_cons (pv 0) pa_nil)) pa_nil))) (pa_cons (pe_lstN pa_nil) pa_nil))))) pss_nil)
  (pss_cons (ps_if (pt_cmpR (op_eqG hr.units) (pv 2) pe_str (nomark _)) (pss_one (ps_ret (pe_tupN (pa_cons (pe_tupN (pa_cons pe_str pa_nil)) (pa_cons (pe_lstN pa_nil) pa_nil))))) pss_nil)
  (pss_cons (ps_if (pt_cmpR (op_eqG hr.units) (pv 2) pe_str (nomark _)) (pss_one (ps_ret (pe_tupN (pa_cons (pe_tupN (pa_cons pe_str (pa_cons (pe_ixG (hu_of hr) (pe_lstN (pa_cons (pe_ixG (hu_of hr) (pe_cal c_law_names hr rfl (pa_cons (pv 0) (pa_cons pe_int pa_nil))) pe_int (fun _ _ => rfl)) (pa_cons pe_str pa_nil))) (pe_cal c_law_draw hr rfl (pa_cons (pv 0) (pa_cons pe_int pa_nil))) (fun _ _ => rfl)) pa_nil))) (pa_cons (pe_lstN pa_nil) pa_nil))))) pss_nil)
  (pss_cons (ps_if (pt_cmpR (op_eqG hr.units) (pv 2) pe_str (nomark _)) (pss_cons (ps_setLc (i := 4) (own := [("_law_k", 5)]) (g := (gName 5)) (tt := tYes) rfl sc_law_cell.nd rfl rfl (sw_true rfl rfl rfl (by decide +kernel)) (pi_range1 (by rfl) T.n_range (pa_cons (pe_cal c_law_draw hr rfl (pa_cons (pv 0) (pa_cons pe_int pa_nil))) pa_nil)) (blkOk_by (by kernel_rfl)) (fun _ _ _ _ _ => (pg_name (i := 5) sc_law_cell.nd rfl (by first | exact Or.inl rfl | exact Or.inr rfl))) (fun _ _ _ _ _ => pts_nil) (fun _ _ _ _ _ => (pe_cal c_law_draw hr rfl (pa_cons (pv 0) (pa_cons pe_int pa_nil)))))
  (pss_one (ps_ret (pe_tupN (pa_cons (pe_tupN (pa_cons pe_str (pa_cons (pe_ixG (hu_of hr) (pe_cal c_law_names hr rfl (pa_cons (pv 0) (pa_cons pe_int pa_nil))) pe_int (fun _ _ => rfl)) (pa_cons (pe_callTy call_tupleG (by rfl) T.n_tuple (by decide +kernel) (pa_cons (pv 4) pa_nil)) pa_nil)))) (pa_cons (pv 4) pa_nil)))))) pss_nil)
  (pss_one (ps_ret (pe_tupN (pa_cons (pe_callTy call_tupleG (by rfl) T.n_tuple (by decide +kernel) (pa_cons (pe_op op_addG (pe_lstN (pa_cons (pv 2) pa_nil)) (pv 4)) pa_nil)) (pa_cons (pv 4) pa_nil)))))))))))))
abbrev st_law : Stmt := topS 8
theorem sc_law : FnScope ["_law_script", "_law_pen_here", "_law_turn", "_law_cell_here", "_law_due", "_law_found"] ["_law_script"] (defScope st_law) := ⟨rfl, rfl, rfl, by decide +kernel, rfl, by decide +kernel, by decide +kernel⟩
theorem mkl_law {P : Program} {w : World} {K : PySem.W.Frag} {mg : Str → Option Value} {base : Heap} {fd : FuncData} (F : FunD K "law" "law" (defArgs (topS 8)) (defBody (topS 8)) (defScope (topS 8)) [] [] (He.ga K "law") fd) (T : TX w K mg) {j : Nat} {sp : Sp} {s_law_pen s_law_cell s_named_by : Sp} (c_law_pen : Cal P w K mg base j "_law_pen" s_law_pen) (c_law_cell : Cal P w K mg base j "_law_cell" s_law_cell) (c_named_by : Cal P w K mg base j "named_by" s_named_by)
    (pure_ : PureOk 1 sp (t_law K w s_law_pen s_law_cell s_named_by) 6) : FnOk P w K mg base CX0 (j + 1) (He.ga K "law") fd ["_law_script"] sp := by
  refine F.ok sc_law pure_.len fun cdv A outer s H vs Q E hr h => ?_
  refine ⟨t_law K w s_law_pen s_law_cell s_named_by, PSs.nox ?_, pure_.run vs H Q E h⟩
  exact (pss_cons (ps_set (i := 1) sc_law.nd rfl (Or.inl rfl) (pe_cal c_law_pen hr rfl (pa_cons (pv 0) pa_nil)))
  (pss_cons (ps_for PassesOwn.never rfl (pi_range1 (by rfl) T.n_range (pa_cons pe_int pa_nil)) (pg_name (i := 2) sc_law.nd rfl (by first | exact Or.inl rfl | exact Or.inr rfl)) (pss_cons (ps_asg (pe_cal c_law_cell hr rfl (pa_cons (pv 1) pa_nil)) (pg_tup rfl (pgs_cons (pg_name (i := 3) sc_law.nd rfl (by first | exact Or.inl rfl | exact Or.inr rfl)) (pgs_cons (pg_name (i := 4) sc_law.nd rfl (by first | exact Or.inl rfl | exact Or.inr rfl)) pgs_nil))))
  (pss_cons (ps_set (i := 5) sc_law.nd rfl (Or.inl rfl) (pe_cal c_named_by hr rfl (pa_cons (pv 3) pa_nil)))
  (pss_cons (ps_if (PW.pt (pw_or (pt_not (pt_tru (pe_callB call_isiG (by rfl) T.n_isinstance (by decide +kernel) (pa_cons (pv 5) (pa_cons (pe_bltn (v := .ty "list") rfl T.n_list (by decide +kernel) rfl) pa_nil))) (by intro _; rfl))) (pw_or1 (pt_cmpR (op_neG hr.units) (pv 5) (pv 4) (nomark _))))) (pss_one (ps_ret pe_bl)) pss_nil)
  (pss_cons (ps_expr (pe_bm PySem.F.plainAttrs_list PySem.F.slot_list_append PySem.F.type_list_append mt_appendG (pv 5) (pa_cons pe_int pa_nil)))
  (pss_one (ps_if (pt_cmpR (op_neG hr.units) (pe_cal c_named_by hr rfl (pa_cons (pv 3) pa_nil)) (pv 4) (nomark _)) (pss_one (ps_ret pe_bl)) pss_nil)))))))
  (pss_one (ps_ret pe_bl))))
/-! ### the head -/
def dd (x : Str) (i : Nat) : He.DefD := ⟨(x, none), x, x, defArgs (topS i), defBody (topS i), defScope (topS i), [], []⟩
def hfn : List He.DefD := [dd "named_by" 1, dd "_law_pen" 3, dd "_law_draw" 4, dd "_law_names" 5, dd "_law_number" 6, dd "_law_cell" 7, dd "law" 8]
def hfa : List He.Fa := [.glo "named_by", .glo "_law_pen", .glo "_law_draw", .glo "_law_names", .glo "_law_number", .glo "_law_cell", .glo "law", .free "list", .free "len", .free "max", .free "abs", .free "range", .free "tuple", .free "isinstance"]
def hts : List He.Tab := []
def hex (K : PySem.W.Frag) : Bool := true
abbrev hR : PySem.W.OpenRow := PySem.W.OpenLaw.row PySem.Challenge.rw_lazywebs_k46_cells_named
abbrev hk : PySem.W.Hook := He.hookX 5 hfa hfn hts [] hex
def ob (s : PySem.W.SharedT) : He.AlX := He.obsX 5 hfa hfn hts [] hex (HandSHeadRun.getT s)
theorem ob_eq (s : PySem.W.SharedT) : ob s = hk.obs s.abs := He.obsX_eq (HandSHeadRun.getT_eq s)
def loose0 : List Str := ["named_by", "_law_pen", "_law_draw", "_law_names", "_law_number", "_law_cell"]
def hloose : List Str := loose0
theorem hrun (w : World) : HandSHeadRun.RunEq hR (PySem.W.view hR.prog [8]) hk ob 3000 hloose w := by
  intro os
  kernel_rfl
theorem tx_mk {w : World} {K : PySem.W.Frag} {h h2 : Heap} {mg : Str → Option Value} (X : K.In h) (G : h.Ns mainGlobals mg) (c : He.SaysX hfa hfn hts [] hex w h2 K) : TX w K mg := by
  exact {
    d_named_by := c.t.d.def_ 0 rfl
    f_named_by := He.glo_ok X G (c.t.d.fact 0 (f := .glo "named_by") rfl)
    d_law_pen := c.t.d.def_ 1 rfl
    f_law_pen := He.glo_ok X G (c.t.d.fact 1 (f := .glo "_law_pen") rfl)
    d_law_draw := c.t.d.def_ 2 rfl
    f_law_draw := He.glo_ok X G (c.t.d.fact 2 (f := .glo "_law_draw") rfl)
    d_law_names := c.t.d.def_ 3 rfl
    f_law_names := He.glo_ok X G (c.t.d.fact 3 (f := .glo "_law_names") rfl)
    d_law_number := c.t.d.def_ 4 rfl
    f_law_number := He.glo_ok X G (c.t.d.fact 4 (f := .glo "_law_number") rfl)
    d_law_cell := c.t.d.def_ 5 rfl
    f_law_cell := He.glo_ok X G (c.t.d.fact 5 (f := .glo "_law_cell") rfl)
    d_law := c.t.d.def_ 6 rfl
    f_law := He.glo_ok X G (c.t.d.fact 6 (f := .glo "law") rfl)
    n_list := He.free_ok X G (c.t.d.fact 7 (f := .free "list") rfl)
    n_len := He.free_ok X G (c.t.d.fact 8 (f := .free "len") rfl)
    n_max := He.free_ok X G (c.t.d.fact 9 (f := .free "max") rfl)
    n_abs := He.free_ok X G (c.t.d.fact 10 (f := .free "abs") rfl)
    n_range := He.free_ok X G (c.t.d.fact 11 (f := .free "range") rfl)
    n_tuple := He.free_ok X G (c.t.d.fact 12 (f := .free "tuple") rfl)
    n_isinstance := He.free_ok X G (c.t.d.fact 13 (f := .free "isinstance") rfl)
  }
section
variable {P : Program} {w : World} {K : PySem.W.Frag} {mg : Str → Option Value} {base : Heap}
theorem law_ok (T : TX w K mg) {fd : FuncData} (F : FunD K "law" "law" (defArgs (topS 8)) (defBody (topS 8)) (defScope (topS 8)) [] [] (He.ga K "law") fd) : FnOk P w K mg base CX0 4 (He.ga K "law") fd ["_law_script"] (spLaw K) := by
  have c_named_by : Cal P w K mg base 1 "named_by" (spNamedBy) := mk_named_by (j := 0) T  (pure_named_by)
  have c_law_pen : Cal P w K mg base 1 "_law_pen" (spPen K) := mk_law_pen (j := 0) T  (pure_pen)
  have c_law_draw : Cal P w K mg base 1 "_law_draw" (spDraw) := mk_law_draw (j := 0) T  (pure_draw)
  have c_law_names : Cal P w K mg base 2 "_law_names" (spNames) := mk_law_names (j := 1) T (c_law_draw.mono (by decide)) (pure_names)
  have c_law_number : Cal P w K mg base 2 "_law_number" (spNumber) := mk_law_number (j := 1) T (c_law_draw.mono (by decide)) (pure_number)
  have c_law_cell : Cal P w K mg base 3 "_law_cell" (spCell) := mk_law_cell (j := 2) T (c_law_draw.mono (by decide)) (c_law_number.mono (by decide)) (c_law_names.mono (by decide)) (pure_cell)
  exact mkl_law (j := 3) F T (c_law_pen.mono (by decide)) (c_law_cell.mono (by decide)) (c_named_by.mono (by decide)) (pure_law)
end
end Lz
open PySem PySem.W PySem.Calls PyProof.Rows
theorem PySem.Challenge.cw_lazywebs_k46_cells_named_holds : PySem.Challenge.rw_lazywebs_k46_cells_named.Holds := by
  w_on; o_law
  refine HandSHeadRun.head_any (r := OpenLaw.row PySem.Challenge.rw_lazywebs_k46_cells_named) (q := view (OpenLaw.row PySem.Challenge.rw_lazywebs_k46_cells_named).prog [8]) (H := Lz.hk) (ob := Lz.ob) (M := 3000) (loose := Lz.hloose) (d := HandSHeadRun.topDef (OpenLaw.row PySem.Challenge.rw_lazywebs_k46_cells_named).prog 8) (kwd := []) Lz.ob_eq
    (by kernel_rfl) (fun s => by kernel_rfl) Lz.hrun (by kernel_rfl) (by kernel_rfl) (by kernel_rfl) (by rfl) (by first | assumption | decide +kernel) (by decide +kernel) ⟨rfl, rfl, rfl, rfl, rfl, by decide +kernel⟩ ?hw ?hc
  case hw => w_witness2
  case hc =>
    refine L2.walk_ofE (l := PySem.Challenge.rw_lazywebs_k46_cells_named) (n := 63) (k := 4) (x := "_law_script") (CX := L2.CX0) rfl (by decide) (by kernel_rfl) ⟨rfl, by decide, by decide⟩ ?F (fun _ _ _ _ z => z)
    intro w mg fa h Y G hmg0
    obtain ⟨K, KX, c⟩ := Y
    have T := Lz.tx_mk KX G c
    have hmg : mg ("law" : PySem.Str) = some (.ref fa) := by
      have e : (HandSHeadRun.topDef (OpenLaw.row PySem.Challenge.rw_lazywebs_k46_cells_named).prog 8).name = ("law" : PySem.Str) := by kernel_rfl
      rw [← e]
      exact hmg0
    have e := hmg.symm.trans T.f_law
    cases e
    obtain ⟨fd, F⟩ := T.d_law
    have b := L2.FunD.bindsA (ps := ["_law_script"]) F fun _ _ _ _ _ _ us hl => match us, hl with | [_], _ => rfl
    exact ⟨K, fd, Lz.spLaw K, KX, fun s u => b s [u] rfl, fun H a ns hl _ hS => ⟨a, ns, rfl, hS, hl, fun _ => rfl⟩, fun base _ _ => Lz.law_ok T F⟩
#print axioms PySem.Challenge.cw_lazywebs_k46_cells_named_holds
