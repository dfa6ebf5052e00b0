import PyProof.Rows.All
import Wide.All
import OpenK.AllK
import Wide.FinOn
import KE.KStateDown
import Lean
import HandS.Base
import HandS.Call
import HandS.List
import HandS.Comp
import HandS.Ends
import HandS.Dict
import HandS.Iter
import HandS.Text
import HandS.More
import HandS.Exc
import HandS.Words
import HandS.WordsList
import HandS.Defaults
import HandS.Wide
import HandS.TupAny
import HandS.Flow
import HandS.Style
import HandS.Conv
import HandS.IsInst
import HandS.Head0
import HandS.Head1
import HandS.Head2
import HandS.HeadEnd
import HandS.HeadHook1
import HandS.HeadHook2
import HandS.HeadHook3
import HandS.DeepEq
import PyProof.NeData
import HandS.Codes
import HandS.ExcOwn
import HandS.ExcInit
import HandS.WordsExc
import KE.KExcIs
import HandS.TryMany
import HandS.ExcField
import HandS.HeadHook4
import PySem.Challenge.RW_lazywebs_k07_names_that_stand_ahead
set_option Elab.async false
set_option linter.all false
set_option maxRecDepth 100000
set_option maxHeartbeats 4000000
namespace Lz
open PySem PySem.Spec PyProof.Rows L2
/-! ### heaps by what is known of them -/
/-- a new object o at p -/
def New (H : Hp) (o : HO) (R : Addr → Hp → Prop) : Prop := ∀ p H', H p = none → H' p = some o → Same H H' → R p H'
/-- but for a all is as it was -/
def Chg (a : Addr) (H H' : Hp) : Prop := ∀ b o, b ≠ a → H b = some o → H' b = some o
/-- the object at a is now o -/
def Put (H : Hp) (a : Addr) (o : HO) (R : Hp → Prop) : Prop := ∀ H', H' a = some o → Chg a H H' → R H'
theorem same_upd {H : Hp} {p : Addr} {o : HO} (h : H p = none) : Same H (upd H p o) := fun b u e => by rw [upd_ne (ne_of_none e h)]; exact e
theorem New.at {H : Hp} {o : HO} {R : Addr → Hp → Prop} (h : New H o R) : ∀ p, H p = none → R p (upd H p o) := fun p hp => h p _ hp upd_same (same_upd hp)
theorem Put.at {H : Hp} {a : Addr} {o : HO} {R : Hp → Prop} (h : Put H a o R) : R (upd H a o) := h _ upd_same fun b u n e => by rw [upd_ne n]; exact e
section
variable {X : Cx}
theorem opr_imp {f : Value → Value → Sem Value} {r r' : R2} (h : OpR X f r) (i : ∀ x y H Q, r' x y H Q → r x y H Q) : OpR X f r' := fun pins s σ H x y v u Q I rx ry q => h pins s σ H x y v u Q I rx ry (i _ _ _ _ q)
theorem callr_imp {f : Value} {r r' : List V → Hp → VK → Prop} (h : CallR X f r) (i : ∀ xs H Q, r' xs H Q → r xs H Q) : CallR X f r' := fun pins s σ H xs us Q I rs q => h pins s σ H xs us Q I rs (i _ _ _ q)
theorem mtr_imp {id : String} {r r' : V → List V → Hp → VK → Prop} (h : MtR X id r) (i : ∀ x xs H Q, r' x xs H Q → r x xs H Q) : MtR X id r' := fun pins s σ H x xs v us Q I rx rs q => h pins s σ H x xs v us Q I rx rs (i _ _ _ _ q)
theorem slr_imp {r r' : V → Option Int → Option Int → Hp → VK → Prop} (h : SlR X r) (i : ∀ x lo hi H Q, r' x lo hi H Q → r x lo hi H Q) : SlR X r' := fun pins s σ H x v vl vu lo hi sl Q I rx hs pl pu q => h pins s σ H x v vl vu lo hi sl Q I rx hs pl pu (i _ _ _ _ _ q)
/-- a reading's upward closure -/
def clA (t : TA) : TA := fun σ H Q => ∃ Q0, t σ H Q0 ∧ ∀ xs H1, Q0 xs H1 → Q xs H1
def clE (t : TE) : TE := fun σ H Q => ∃ Q0, t σ H Q0 ∧ ∀ x H1, Q0 x H1 → Q x H1
theorem pa_cl {es : List Expr} {t : TA} (h : PA X es t) : PA X es (clA t) := ⟨fun pos pins s σ H Q I ⟨Q0, q, i⟩ => thn (h.run pos pins s σ H Q0 I q) fun us s' ⟨vs, H', I', r, q'⟩ => ⟨vs, H', I', r, i _ _ q'⟩⟩
theorem pe_cl {e : Expr} {t : TE} (h : PE X e t) : PE X e (clE t) := ⟨fun pins s σ H Q I ⟨Q0, q, i⟩ => thn (h.run pins s σ H Q0 I q) fun us s' ⟨vs, H', I', r, q'⟩ => ⟨vs, H', I', r, i _ _ q'⟩⟩
/-- displays -/
def tTupN (t : TA) : TE := fun σ H Q => t σ H fun xs H1 => xs.length ≤ sizeLine ∧ New H1 (.tup xs) fun p H2 => Q (.ref p) H2
def tLstN (t : TA) : TE := fun σ H Q => t σ H fun xs H1 => xs.length ≤ sizeLine ∧ New H1 (.lst xs) fun p H2 => Q (.ref p) H2
theorem pe_tupN {es : List Expr} {t : TA} {x1 pos} (h : PA X es t) : PE X (.Tuple es x1 pos) (tTupN t) :=
  ⟨fun pins s σ H Q I q => (pe_tup (pa_cl h)).run pins s σ H Q I ⟨_, q, fun xs H1 ⟨hl, n⟩ => ⟨hl, n.at⟩⟩⟩
theorem pe_lstN {es : List Expr} {t : TA} {pos} (h : PA X es t) : PE X (.List es pos) (tLstN t) :=
  ⟨fun pins s σ H Q I q => (pe_lst (pa_cl h)).run pins s σ H Q I ⟨_, q, fun xs H1 ⟨hl, n⟩ => ⟨hl, n.at⟩⟩⟩
def tDNewKN : TE := fun _ H Q => New H (.dK []) fun p H2 => Q (.ref p) H2
/-- a display of a dict: its pairs while it is empty, then filled -/
def tDispN (trs : List (TE × TE)) : TE := fun σ H Q => New H (.dK []) fun p H1 => tPairs trs σ H1 fun ps H2 => H2 p = some (.dK []) ∧ ∃ kvs : List (Key × V), ps = kvs.map (fun kv => (kV kv.1, kv.2)) ∧ kvs.length ≤ 15 ∧ Put H2 p (.dK (mergeK [] kvs)) fun H' => Q (.ref p) H'
def clP (trs : List (TE × TE)) : List (TE × TE) := trs.map fun q => (clE q.1, clE q.2)
theorem tPairs_cl : ∀ (trs : List (TE × TE)) (σ : L2.St) (H : Hp) (Q Q' : List (V × V) → Hp → Prop), tPairs trs σ H Q → (∀ ps H', Q ps H' → Q' ps H') → tPairs (clP trs) σ H Q'
  | [], σ, H, Q, Q', h, i => i _ _ h
  | (tk, tv) :: r, σ, H, Q, Q', h, i => ⟨_, h, fun x H1 h1 => ⟨_, h1, fun y H2 h2 => tPairs_cl r σ H2 _ _ h2 fun ps H3 h3 => i _ _ h3⟩⟩
theorem pe_dispN {pos : Pos} {keys : List (Option Expr)} {values : List Expr} {trs : List (TE × TE)} (h : PPs X pos keys values (clP trs)) (hall : keys.all (·.isSome) = true) (hl : keys.length = values.length) (h0 : keys ≠ [])
    (h15 : keys.length ≤ 15) : PE X (.Dict keys values pos) (tDispN trs) :=
  ⟨fun pins s σ H Q I q => (pe_disp h hall hl h0 h15).run pins s σ H Q I fun p hp => tPairs_cl trs σ _ _ _ (q p _ hp upd_same (same_upd hp)) fun ps H2 ⟨e, kvs, e1, e2, n⟩ => ⟨e, kvs, e1, e2, n.at⟩⟩
end
/-! ### operators, whatever the operands are -/
section
variable {X : Cx}
def rAddG (K : PySem.W.Frag) : R2 := fun x y H Q => (rI0 fun i j => .int (i + j)) x y H Q ∨ (∃ i j, x = .str i ∧ y = .str j ∧ i.length + j.length ≤ sizeLine ∧ Q (.str (i ++ j)) H) ∨
  (∃ l b xs zs, x = .ref l ∧ y = .ref b ∧ H l = some (.lst xs) ∧ H b = some (.lst zs) ∧ xs.length + zs.length ≤ sizeLine ∧ New H (.lst (xs ++ zs)) fun p H' => Q (.ref p) H') ∨
  (∃ a b xs ys, x = .ref a ∧ y = .ref b ∧ SqT K H a xs ∧ SqT K H b ys ∧ xs.length + ys.length ≤ sizeLine ∧
    (xs = [] → Q (.ref b) H) ∧ (xs ≠ [] → ys = [] → Q (.ref a) H) ∧ (xs ≠ [] → ys ≠ [] → New H (.tup (xs ++ ys)) fun p H' => Q (.ref p) H'))
theorem op_addG : OpR X (binaryOp .Add) (rAddG X.K) := opr_imp (op_add.or (op_add_str.or (op_cat.or op_catA))) fun x y H Q h => by
  rcases h with h | h | ⟨l, b, xs, zs, e1, e2, h1, h2, hl, n⟩ | ⟨a, b, xs, ys, e1, e2, h1, h2, hl, n0, n1, n⟩
  · exact .inl h
  · exact .inr (.inl h)
  · exact .inr (.inr (.inl ⟨l, b, xs, zs, e1, e2, h1, h2, hl, n.at⟩))
  · exact .inr (.inr (.inr ⟨a, b, xs, ys, e1, e2, h1, h2, hl, n0, n1, fun x1 y1 => (n x1 y1).at⟩))
abbrev rSubG : R2 := rI0 fun i j => .int (i - j)
def rMulG : R2 := fun x y H Q => (rI CMul fun i j => .int (i * j)) x y H Q ∨ (rI CMulW fun i j => .int (i * j)) x y H Q
theorem op_mulG : OpR X (binaryOp .Mult) rMulG := op_mul.or op_mulW
abbrev rDivG : R2 := rI CDivW fun i j => .int (i / j)
abbrev rModG : R2 := rI (fun _ j => 0 < j) fun i j => .int (i % j)
abbrev rPowG : R2 := rI CPow fun i j => .int (i ^ j.toNat)
/-- values that are like themselves at once: those of hits_all, and one and the same object -/
def flatR : V → Bool
  | .ref _ => true
  | v => flatB v
theorem eqAt_sameR {A : Around} {s : Shared} {v : V} {u u' : Value} (r : RelV v u) (r' : RelV v u') (f : flatR v = true) : SeqAt.EqAt A s u u' true := by
  cases v with
  | ref a =>
    obtain rfl : u = Value.ref a := r
    obtain rfl : u' = Value.ref a := r'
    exact SeqAt.EqAt.same _
  | _ => exact eqAt_same r r' f
theorem hits_allR {κ : Type} [DecidableEq κ] {A : Around} {s : Shared} {kvs : List (κ × V)} {vb : List (κ × Value)} (rb : KV kvs vb) {ks : List (κ × V)} {va : List (κ × Value)} (ra : KV ks va) :
    (∀ p ∈ ks, valV kvs p.1 = some p.2 ∧ flatR p.2 = true) → PySem.W.KeqHits A s vb va true := by
  unfold KV at ra
  induction ra with
  | nil => intro _; exact .nil
  | @cons p q ps qs h t ih =>
    intro hp
    obtain ⟨h1, h2⟩ := h
    obtain ⟨e, f⟩ := hp p List.mem_cons_self
    have rr : RelO (some p.2) (valueAt vb p.1) := by rw [← e]; exact rb.val p.1
    obtain ⟨y, hy, ry⟩ := rr.some_of
    obtain ⟨k, v⟩ := q
    have h1' : p.1 = k := h1
    rw [h1'] at hy
    show PySem.W.KeqHits A s vb ((k, v) :: qs) (true && true)
    exact .hit hy (eqAt_sameR h2 ry f) (ih fun p' hm => hp p' (List.mem_cons_of_mem _ hm))
/-- two dicts that hold the same, whatever the order of their keys is; values flat or the same objects -/
def rSameD (b : Bool) : R2 := fun x y H Q => ∃ p q ks ls, x = .ref p ∧ y = .ref q ∧ H p = some (.dK ks) ∧ H q = some (.dK ls) ∧ ks.length = ls.length ∧ (∀ p ∈ ks, valV ls p.1 = some p.2 ∧ flatR p.2 = true) ∧ Q (.bl b) H
theorem op_eq_dictR (hu : X.A.units < cLine) : OpR X (compareOp .Eq) (rSameD true) := by
  intro pins s σ H x y v u Q I rx ry h
  obtain ⟨a, b, ks, ls, rfl, rfl, ea, eb, hlen, hp, q⟩ := h
  obtain rfl : v = Value.ref a := rx
  obtain rfl : u = Value.ref b := ry
  obtain ⟨_, ya, va, ra, da⟩ := (show ObjOk X.prog X.w H s.heap a (.dK ks) from I.hok a _ ea)
  obtain ⟨_, yb, vb, rb, db⟩ := (show ObjOk X.prog X.w H s.heap b (.dK ls) from I.hok b _ eb)
  have hl : va.length = vb.length := by rw [← ra.length, ← rb.length]; exact hlen
  exact PySem.W.keq_eq (knd := mixKind X.prog X.w) (r := true) ya yb da db hu (fun _ => hits_allR rb ra hp) (fin_bl I q (by simp [hl]))
theorem op_ne_dictR (hu : X.A.units < cLine) : OpR X (compareOp .NotEq) (rSameD false) := by
  intro pins s σ H x y v u Q I rx ry h
  obtain ⟨a, b, ks, ls, rfl, rfl, ea, eb, hlen, hp, q⟩ := h
  obtain rfl : v = Value.ref a := rx
  obtain rfl : u = Value.ref b := ry
  obtain ⟨_, ya, va, ra, da⟩ := (show ObjOk X.prog X.w H s.heap a (.dK ks) from I.hok a _ ea)
  obtain ⟨_, yb, vb, rb, db⟩ := (show ObjOk X.prog X.w H s.heap b (.dK ls) from I.hok b _ eb)
  have hl : va.length = vb.length := by rw [← ra.length, ← rb.length]; exact hlen
  exact PySem.W.keq_ne (knd := mixKind X.prog X.w) (r := true) ya yb da db hu (fun _ => hits_allR rb ra hp) (fin_bl I q (by simp [hl]))
end
/-! ### alike: by structure, down to flat values or to one and the same object; however deep (the stack has room) -/
/-- two lists, two tuples of alike items -/
def LkR (K : PySem.W.Frag) (H : Hp) (E : V → V → Prop) (x y : V) : Prop :=
  (∃ a b xs ys, x = .ref a ∧ y = .ref b ∧ SqL K H a xs ∧ SqL K H b ys ∧ Paired E xs ys) ∨ ∃ a b xs ys, x = .ref a ∧ y = .ref b ∧ SqT K H a xs ∧ SqT K H b ys ∧ Paired E xs ys
def Lk (K : PySem.W.Frag) (H : Hp) : Nat → V → V → Prop
  | 0 => fun _ _ => False
  | n + 1 => fun x y => (x = y ∧ flatB x = true) ∨ (∃ a, x = .ref a ∧ y = .ref a) ∨ LkR K H (Lk K H n) x y
theorem items_like {A : Around} {s : Shared} {F : V → V → Prop} (ih : ∀ x y v u, F x y → RelV x v → RelV y u → SeqAt.EqAt A s v u true) {xs ys : List V} (hp : Paired F xs ys) :
    ∀ {us ws : List Value}, Vals xs us → Vals ys ws → ∀ j (h1 : j < us.length) (h2 : j < ws.length), SeqAt.EqAt A s us[j] ws[j] true := by
  induction hp with
  | nil =>
    intro us ws r1 r2 j h1 h2
    cases r1
    exact absurd h1 (Nat.not_lt_zero j)
  | cons h _ k =>
    intro us ws r1 r2 j h1 h2
    cases r1 with
    | cons a1 b1 =>
      cases r2 with
      | cons a2 b2 =>
        cases j with
        | zero => exact ih _ _ _ _ h a1 a2
        | succ j => exact k b1 b2 j (Nat.lt_of_succ_lt_succ h1) (Nat.lt_of_succ_lt_succ h2)
section
variable {X : Cx} {pins : List (Addr × Obj)} {σ : L2.St} {H : Hp} {s : Shared}
/-- both, asked by == or by !=: R is what is told of lists and of tuples -/
theorem like_run {R : Around → Shared → Value → Value → Bool → Prop} {t : Bool} (I : Inv X pins σ H s) {A : Around} {F : V → V → Prop} (hu : A.units < cLine)
    (hl : ∀ {l b : Addr} {items items2 : Array Value} {e : Nat → Bool}, s.heap.IsList l items → s.heap.IsList b items2 → items.size = items2.size → (∀ j (h1 : j < items.size) (h2 : j < items2.size), SeqAt.EqAt A.in1 s items[j] items2[j] (e j)) →
      (List.range items.size).all e = true → R A s (.ref l) (.ref b) t)
    (ht : ∀ {l b : Addr} {items items2 : Array Value} {e : Nat → Bool}, s.heap.IsTuple l items → s.heap.IsTuple b items2 → (∀ j (h1 : j < items.size) (h2 : j < items2.size), SeqAt.EqAt A.in1 s items[j] items2[j] (e j)) →
      ((List.range (min items.size items2.size)).all e && items.size == items2.size) = true → R A s (.ref l) (.ref b) t)
    (ih : ∀ x y v u, F x y → RelV x v → RelV y u → SeqAt.EqAt A.in1 s v u true) {x y : V} {v u : Value} (h : LkR X.K H F x y) (rx : RelV x v) (ry : RelV y u) : R A s v u t := by
  rcases h with ⟨a, b, xs, ys, rfl, rfl, ha, hb, hp⟩ | ⟨a, b, xs, ys, rfl, rfl, ha, hb, hp⟩
  · cases (show v = Value.ref a from rx)
    cases (show u = Value.ref b from ry)
    obtain ⟨us, r1, p1, _⟩ := I.list ha
    obtain ⟨ws, r2, p2, _⟩ := I.list hb
    have hsz : us.toArray.size = ws.toArray.size := by
      rw [List.size_toArray, List.size_toArray, ← r1.length, ← r2.length]
      exact Paired.length hp
    refine hl (e := fun _ => true) p1.isList p2.isList hsz (fun j h1 h2 => ?_) (List.all_eq_true.mpr fun _ _ => rfl)
    have k := items_like ih hp r1 r2 j (by simpa using h1) (by simpa using h2)
    simpa using k
  · cases (show v = Value.ref a from rx)
    cases (show u = Value.ref b from ry)
    obtain ⟨us, r1, p1, _⟩ := I.tuple ha
    obtain ⟨ws, r2, p2, _⟩ := I.tuple hb
    have hsz : us.toArray.size = ws.toArray.size := by
      rw [List.size_toArray, List.size_toArray, ← r1.length, ← r2.length]
      exact Paired.length hp
    refine ht (e := fun _ => true) p1 p2 (fun j h1 h2 => ?_) ?_
    · have k := items_like ih hp r1 r2 j (by simpa using h1) (by simpa using h2)
      simpa using k
    · rw [Bool.and_eq_true]
      exact ⟨List.all_eq_true.mpr fun _ _ => rfl, by simpa using hsz⟩
theorem lk_eqAt (I : Inv X pins σ H s) : ∀ (n : Nat) (A : Around), A.units + n < cLine → ∀ (x y : V) (v u : Value), Lk X.K H n x y → RelV x v → RelV y u → SeqAt.EqAt A s v u true
  | 0, _, _, _, _, _, _, h, _, _ => (show False from h).elim
  | n + 1, A, hu, x, y, v, u, h, rx, ry => by
    rcases h with ⟨rfl, f⟩ | ⟨a, rfl, rfl⟩ | h
    · exact eqAt_same rx ry f
    · cases (show v = Value.ref a from rx)
      cases (show u = Value.ref a from ry)
      exact SeqAt.EqAt.same _
    · have hu1 : A.units < cLine := by omega
      have step : SeqAt.RcAt A s v u true := like_run (R := SeqAt.RcAt) I hu1 (fun h1 h2 h3 h4 h5 => h5 ▸ SeqAt.RcAt.lists h1 h2 h3 hu1 h4) (fun h1 h2 h4 h5 => h5 ▸ SeqAt.RcAt.tuples h1 h2 hu1 h4)
        (lk_eqAt I n A.in1 (by show A.units + 1 + n < cLine; omega)) h rx ry
      obtain ⟨a, b, rfl, rfl⟩ : ∃ a b, x = .ref a ∧ y = .ref b := by
        rcases h with ⟨a, b, _, _, e1, e2, _⟩ | ⟨a, b, _, _, e1, e2, _⟩
        · exact ⟨a, b, e1, e2⟩
        · exact ⟨a, b, e1, e2⟩
      cases (show v = Value.ref a from rx)
      cases (show u = Value.ref b from ry)
      by_cases e : a = b
      · subst e
        exact SeqAt.EqAt.same _
      · exact SeqAt.EqAt.of_refs e step
end
section
variable {X : Cx}
/-- a == b, a != b of two lists, two tuples that are alike -/
def rLikeN (K : PySem.W.Frag) (N : Nat) (t : Bool) : R2 := fun x y H Q => ∃ n, n ≤ N ∧ LkR K H (Lk K H n) x y ∧ Q (.bl t) H
abbrev rLike (K : PySem.W.Frag) (t : Bool) : R2 := rLikeN K 150 t
theorem op_eqLike {N : Nat} (hu : X.A.units + (N + 50) < cLine) : OpR X (compareOp .Eq) (rLikeN X.K N true) := by
  intro pins s σ H x y v u Q I rx ry h
  obtain ⟨n, hn, h, q⟩ := h
  have hu1 : X.A.units < cLine := by omega
  have step : SeqAt.RcAt X.A s v u true := like_run (R := SeqAt.RcAt) I hu1 (fun h1 h2 h3 h4 h5 => h5 ▸ SeqAt.RcAt.lists h1 h2 h3 hu1 h4) (fun h1 h2 h4 h5 => h5 ▸ SeqAt.RcAt.tuples h1 h2 hu1 h4)
    (lk_eqAt I n X.A.in1 (by show X.A.units + 1 + n < cLine; omega)) h rx ry
  exact step X.prog X.w X.xe _ ⟨.bl true, H, I, rfl, q⟩
theorem op_neLike {N : Nat} (hu : X.A.units + (N + 50) < cLine) : OpR X (compareOp .NotEq) (rLikeN X.K N false) := by
  intro pins s σ H x y v u Q I rx ry h
  obtain ⟨n, hn, h, q⟩ := h
  have hu1 : X.A.units < cLine := by omega
  have step : SeqAt.RcNeAt X.A s v u false := like_run (R := SeqAt.RcNeAt) I hu1
    (fun h1 h2 h3 h4 h5 => by have := SeqAt.RcNeAt.lists h1 h2 h3 hu1 h4; rw [h5] at this; exact this) (fun h1 h2 h4 h5 => by have := SeqAt.RcNeAt.tuples h1 h2 hu1 h4; rw [h5] at this; exact this)
    (lk_eqAt I n X.A.in1 (by show X.A.units + 1 + n < cLine; omega)) h rx ry
  exact step X.prog X.w X.xe _ ⟨.bl false, H, I, rfl, q⟩
end
section
variable {X : Cx}
/-- two lists of unlike lengths -/
def rLens (K : PySem.W.Frag) (t : Bool) : R2 := fun x y H Q => ∃ a b xs ys, x = .ref a ∧ y = .ref b ∧ SqL K H a xs ∧ SqL K H b ys ∧ xs.length ≠ ys.length ∧ Q (.bl t) H
theorem op_eqLens (hu : X.A.units < cLine) : OpR X (compareOp .Eq) (rLens X.K false) := by
  intro pins s σ H x y v u Q I rx ry ⟨a, b, xs, ys, e1, e2, ha, hb, hn, q⟩
  subst e1
  subst e2
  cases (show v = Value.ref a from rx)
  cases (show u = Value.ref b from ry)
  obtain ⟨us, r1, p1, _⟩ := I.list ha
  obtain ⟨ws, r2, p2, _⟩ := I.list hb
  have e : (us.toArray.size != ws.toArray.size) = true := by rw [List.size_toArray, List.size_toArray, ← r1.length, ← r2.length]; simpa using hn
  exact (SeqAt.RcAt.lists_lengths p1.isList p2.isList e hu) X.prog X.w X.xe _ ⟨.bl false, H, I, rfl, q⟩
theorem op_neLens (hu : X.A.units < cLine) : OpR X (compareOp .NotEq) (rLens X.K true) := by
  intro pins s σ H x y v u Q I rx ry ⟨a, b, xs, ys, e1, e2, ha, hb, hn, q⟩
  subst e1
  subst e2
  cases (show v = Value.ref a from rx)
  cases (show u = Value.ref b from ry)
  obtain ⟨us, r1, p1, _⟩ := I.list ha
  obtain ⟨ws, r2, p2, _⟩ := I.list hb
  have e : (us.toArray.size != ws.toArray.size) = true := by rw [List.size_toArray, List.size_toArray, ← r1.length, ← r2.length]; simpa using hn
  exact (SeqAt.RcNeAt.lists_lengths p1.isList p2.isList e hu) X.prog X.w X.xe _ ⟨.bl true, H, I, rfl, q⟩
def rEqG (K : PySem.W.Frag) : R2 := fun x y H Q => rEq x y H Q ∨ rEqD K x y H Q ∨ rSameD true x y H Q ∨ rLike K true x y H Q ∨ rLens K false x y H Q
def rNeG (K : PySem.W.Frag) : R2 := fun x y H Q => rNe x y H Q ∨ rNeD K x y H Q ∨ rSameD false x y H Q ∨ rLike K false x y H Q ∨ rLens K true x y H Q
theorem op_eqG (hu : X.A.units + 200 < cLine) : OpR X (compareOp .Eq) (rEqG X.K) := op_eq.or ((op_eqD (by omega)).or ((op_eq_dictR (by omega)).or ((op_eqLike hu).or (op_eqLens (by omega)))))
theorem op_neG (hu : X.A.units + 200 < cLine) : OpR X (compareOp .NotEq) (rNeG X.K) := op_ne.or ((op_neD (by omega)).or ((op_ne_dictR (by omega)).or ((op_neLike hu).or (op_neLens (by omega)))))
theorem hu2_of {k : Nat} {A : Around} (hr : Room k A) : A.units + 200 < cLine := by have := hr.un; omega
/-- the same where there is more room: alike up to a thousand deep -/
def rEqB (K : PySem.W.Frag) : R2 := fun x y H Q => rEqG K x y H Q ∨ rLikeN K 1000 true x y H Q
def rNeB (K : PySem.W.Frag) : R2 := fun x y H Q => rNeG K x y H Q ∨ rLikeN K 1000 false x y H Q
abbrev rLtG : R2 := rI0 fun i j => .bl (decide (i < j))
abbrev rLeG : R2 := rI0 fun i j => .bl (decide (i ≤ j))
abbrev rGtG : R2 := rI0 fun i j => .bl (decide (j < i))
abbrev rGeG : R2 := rI0 fun i j => .bl (decide (j ≤ i))
/-- y in a tracked dict -/
def rInT (neg : Bool) : R2 := fun y x H Q => ∃ a o, x = .ref a ∧ DGet H a y o ∧ Q (.bl (if neg then !o.isSome else o.isSome)) H
theorem op_in_t (hu : X.A.units + 1 < cLine) : OpR X (compareOp .In) (rInT false) := by
  intro pins s σ H y x u v Q I ry rx h
  obtain ⟨a, o, rfl, g, q⟩ := h
  cases rx
  exact d_in hu I g ry fun s' I' => ⟨.bl o.isSome, H, I', rfl, q⟩
theorem op_notIn_t (hu : X.A.units + 1 < cLine) : OpR X (compareOp .NotIn) (rInT true) := by
  intro pins s σ H y x u v Q I ry rx h
  obtain ⟨a, o, rfl, g, q⟩ := h
  cases rx
  exact d_notIn hu I g ry fun s' I' => ⟨.bl (!o.isSome), H, I', rfl, q⟩
/-- the written dict at d holds z's value, or nothing -/
def KGet (K : PySem.W.Frag) (w : World) (d : Addr) (z : Str) (r : Option V) : Prop :=
  ∃ es n, KDict K w d es n ∧ ((r = none ∧ PySem.W.nsIn K d z = some none) ∨ ∃ u v, r = some v ∧ PySem.W.nsIn K d z = some (some u) ∧ RelV v u)
def rInK (K : PySem.W.Frag) (w : World) (neg : Bool) : R2 := fun y x H Q => ∃ z d r, y = .str z ∧ x = .ref d ∧ KGet K w d z r ∧ Q (.bl (if neg then !r.isSome else r.isSome)) H
theorem KGet.ns {K : PySem.W.Frag} {w : World} {d : Addr} {z : Str} {r : Option V} (h : KGet K w d z r) : ∃ es n r', KDict K w d es n ∧ PySem.W.nsIn K d z = some r' ∧ r'.isSome = r.isSome := by
  obtain ⟨es, n, D, ⟨rfl, e⟩ | ⟨u, v, rfl, e, _⟩⟩ := h
  · exact ⟨es, n, none, D, e, rfl⟩
  · exact ⟨es, n, some u, D, e, rfl⟩
theorem op_in_k : OpR X (compareOp .In) (rInK X.K X.w false) := by
  intro pins s σ H y x u v Q I ry rx h
  obtain ⟨z, d, r, rfl, rfl, g, q⟩ := h
  obtain ⟨es, n, r', D, e, e2⟩ := g.ns
  exact op_in_kd D pins s σ H _ _ u v Q I ry rx ⟨z, r', rfl, rfl, e, by rw [e2]; exact q⟩
theorem op_notIn_k : OpR X (compareOp .NotIn) (rInK X.K X.w true) := by
  intro pins s σ H y x u v Q I ry rx h
  obtain ⟨z, d, r, rfl, rfl, g, q⟩ := h
  obtain ⟨es, n, r', D, e, e2⟩ := g.ns
  exact op_notIn_kd D pins s σ H _ _ u v Q I ry rx ⟨z, r', rfl, rfl, e, by rw [e2]; exact q⟩
def rInS (neg : Bool) : R2 := fun x y H Q => ∃ i j, x = .str i ∧ y = .str j ∧ Q (.bl (if neg then !(!(Builtin.Str.occurrences j i 0 j.length 1).isEmpty) else !(Builtin.Str.occurrences j i 0 j.length 1).isEmpty)) H
theorem op_in_s : OpR X (compareOp .In) (rInS false) := op_in_str
theorem op_notIn_s : OpR X (compareOp .NotIn) (rInS true) := op_notIn_str
def rInG (K : PySem.W.Frag) (w : World) (neg : Bool) : R2 := fun x y H Q => rIn K neg x y H Q ∨ rInS neg x y H Q ∨ rInT neg x y H Q ∨ rInK K w neg x y H Q
theorem op_inG (hu : X.A.units + 1 < cLine) : OpR X (compareOp .In) (rInG X.K X.w false) := op_in_seq.or (op_in_s.or ((op_in_t hu).or op_in_k))
theorem op_notInG (hu : X.A.units + 1 < cLine) : OpR X (compareOp .NotIn) (rInG X.K X.w true) := op_notIn_seq.or (op_notIn_s.or ((op_notIn_t hu).or op_notIn_k))
/-! ### is -/
def rIsG (neg : Bool) : R2 := fun x y H Q => (y = .non ∧ Q (.bl (if neg then !decide (x = .non) else decide (x = .non))) H) ∨ (∃ a b : Bool, x = .bl a ∧ y = .bl b ∧ Q (.bl (if neg then !decide (a = b) else decide (a = b))) H)
theorem op_isG : OpR X (compareOp .Is) (rIsG false) := op_isN.or op_isBl
theorem op_isNotG : OpR X (compareOp .IsNot) (rIsG true) := op_notN.or op_notBl
/-! ### len of anything -/
def rLenD : List V → Hp → VK → Prop := fun xs H Q => ∃ a kvs, xs = [.ref a] ∧ Rd H a (.dK kvs) ∧ Q (.int kvs.length) H
theorem call_lenK : CallR X (.builtin "len") rLenD := by
  intro pins s σ H xs us Q I r h
  obtain ⟨a, kvs, rfl, g, q⟩ := h
  obtain ⟨u, rfl, ru⟩ := vals1 r
  cases ru
  exact d_len I g fun t s' I' => ⟨.int kvs.length, H, I', ⟨t, rfl⟩, q⟩
def rLenG (K : PySem.W.Frag) : List V → Hp → VK → Prop := fun xs H Q => (∃ x n, xs = [x] ∧ LenV K x H n ∧ Q (.int n) H) ∨ rLenD xs H Q
theorem call_lenG : CallR X (.builtin "len") (rLenG X.K) := call_len.or call_lenK
/-! ### what is walked -/
def iOr (a b : TI) : TI := fun σ H R => a σ H R ∨ b σ H R
theorem piOr {tg e : Expr} {a b : TI} (ha : PI X tg e a) (hb : PI X tg e b) : PI X tg e (iOr a b) :=
  ⟨fun pins s σ H R I h => h.elim (ha.run pins s σ H R I) (hb.run pins s σ H R I)⟩
/-- a list, a tuple, a text -/
def iSeq (K : PySem.W.Frag) (te : TE) : TI := iOr (iList K te) (iOr (iTup K te) (iStr te))
theorem pi_seq {tg e : Expr} {te : TE} (h : PE X e te) : PI X tg e (iSeq X.K te) := piOr (pi_list h) (piOr (pi_tup h) (pi_str h))
end

/-! ### subscripts, slices, stores -/
section
variable {X : Cx}
def rGetT : R2 := fun x y H Q => ∃ a v, x = .ref a ∧ DGet H a y (some v) ∧ Q v H
theorem ix_dictT (hu : X.A.units + 1 < cLine) : IxR X rGetT := by
  intro value slice pins s σ H x y v u Q I rx ry h hs
  obtain ⟨a, z, rfl, g, q⟩ := h
  cases rx
  exact tail_any (dict_typeIs I g) PySem.F.slot_dict_getitem.lookup (d_getItem hu I g ry fun w' s3 I3 rw' => ⟨z, H, I3, rw', q⟩) hs
def rGetK (K : PySem.W.Frag) (w : World) : R2 := fun x y H Q => ∃ d z v, x = .ref d ∧ y = .str z ∧ KGet K w d z (some v) ∧ Q v H
theorem ix_dictK : IxR X (rGetK X.K X.w) := by
  intro value slice pins s σ H x y v u Q I rx ry h hs
  obtain ⟨d, z, r, rfl, rfl, ⟨es, n, D, ⟨e0, _⟩ | ⟨u0, v0, e0, e1, r0⟩⟩, q⟩ := h
  · cases e0
  · cases e0
    have ry' := ry
    cases rx
    exact tail_any (kd_type D I) PySem.F.slot_dict_getitem.lookup (op_item_kd D pins s σ H (.ref d) (.str z) (.ref d) u Q I rfl ry' ⟨z, u0, r, rfl, rfl, e1, r0, q⟩) hs
def rIxG (K : PySem.W.Frag) (w : World) : R2 := fun x y H Q => rIx K x y H Q ∨ rGetT x y H Q ∨ rGetK K w x y H Q
theorem ix_any (hu : X.A.units + 1 < cLine) : IxR X (rIxG X.K X.w) := ix_seq.or ((ix_dictT hu).or ix_dictK)
def tIxG (K : PySem.W.Frag) (w : World) (ta tb : TE) : TE := tOp (rIxG K w) ta tb
theorem pe_ixG {a b : Expr} {ta tb : TE} {pos : Pos} (hu : X.A.units + 1 < cLine) (ha : PE X a ta) (hb : PE X b tb) (hs : PlainIx b) : PE X (.Subscript a b pos) (tIxG X.K X.w ta tb) := pe_ix (ix_any hu) ha hb hs
def rSlG (K : PySem.W.Frag) : V → Option Int → Option Int → Hp → VK → Prop := fun x lo hi H Q => (∃ a xs, x = .ref a ∧ SqL K H a xs ∧ New H (.lst (cutV xs lo hi)) fun p H' => Q (.ref p) H') ∨
  (∃ a xs, x = .ref a ∧ SqT K H a xs ∧ (HT.sIx xs.length 0 lo = 0 ∧ HT.sIx xs.length xs.length hi = xs.length → Q (.ref a) H) ∧ (¬ (HT.sIx xs.length 0 lo = 0 ∧ HT.sIx xs.length xs.length hi = xs.length) → New H (.tup (cutV xs lo hi)) fun p H' => Q (.ref p) H')) ∨ rSlS x lo hi H Q
theorem sl_any : SlR X (rSlG X.K) := slr_imp (sl_list.or (sl_tupA.or sl_str)) fun x lo hi H Q h => by
  rcases h with ⟨a, xs, e, h, n⟩ | ⟨a, xs, e, h, n1, n2⟩ | h
  · exact .inl ⟨a, xs, e, h, n.at⟩
  · exact .inr (.inl ⟨a, xs, e, h, n1, fun z => (n2 z).at⟩)
  · exact .inr (.inr h)
def tRevG (K : PySem.W.Frag) (te : TE) : TE := fun σ H Q => te σ H fun x H1 => ∃ a xs, x = .ref a ∧ SqL K H1 a xs ∧ New H1 (.lst xs.reverse) fun p H' => Q (.ref p) H'
theorem pe_revG {e : Expr} {te : TE} {k : Nat} {p1 p2 p3 pos : Pos} (he : PE X e te) : PE X (.Subscript e (.Slice none none (some (.UnaryOp .USub (.Constant (.int 1) k p1) p2)) p3) pos) (tRevG X.K te) :=
  ⟨fun pins s σ H Q I q => (pe_revL (pe_cl he)).run pins s σ H Q I ⟨_, q, fun x H1 ⟨a, xs, e, h, n⟩ => ⟨a, xs, e, h, n.at⟩⟩⟩
def rSetD : TSet := fun o i v H Q => ∃ a H', o = .ref a ∧ DPut H a i v H' ∧ Q H'
theorem set_dict (hu : X.A.units + 1 < cLine) : PSet X rSetD := by
  intro pins s σ H o i v ov iv u Q I ro ri rv h
  obtain ⟨a, H', rfl, g, q⟩ := h
  cases ro
  exact d_setItem hu I g ri rv fun s' I' => ⟨H', I', q⟩
def rSetG : TSet := fun o i v H Q => (∃ p xs k j, o = .ref p ∧ i = .int k ∧ H p = some (.lst xs) ∧ ixN xs.length k = some j ∧ Put H p (.lst (xs.set j v)) Q) ∨
  (∃ a kvs k, o = .ref a ∧ H a = some (.dK kvs) ∧ i = kV k ∧ kvs.length < sizeLine ∧ Put H a (.dK (putK kvs k v)) Q)
theorem set_any (hu : X.A.units + 1 < cLine) : PSet X rSetG := by
  intro pins s σ H o i v ov iv u Q I ro ri rv h
  rcases h with ⟨p, xs, k, j, e1, e2, h1, h2, q⟩ | ⟨a, kvs, k, e1, h1, e2, hl, q⟩
  · exact set_list pins s σ H o i v ov iv u Q I ro ri rv ⟨p, xs, k, j, e1, e2, h1, h2, q.at⟩
  · exact set_dict hu pins s σ H o i v ov iv u Q I ro ri rv ⟨a, _, e1, .inl ⟨kvs, k, h1, e2, hl, rfl⟩, q.at⟩
/-! ### tests by truth -/
def tTru (K : PySem.W.Frag) (ta : TE) : TT := fun σ H Q => ta σ H fun x H' => ∃ k, TruV K x H' k ∧ Q k H'
theorem pt_tru {a : Expr} {ta : TE} (ha : PE X a ta) (he : ∀ whole, isTrue a X.env whole = (do let v ← whole; standAt a.pos; holding [v] (truthy v))) : PT X a (tTru X.K ta) := pt_truth ha he
/-! ### builtins -/
abbrev rAbsG : List V → Hp → VK → Prop := fun xs H Q => ∃ i, xs = [.int i] ∧ Q (.int (if i < 0 then -i else i)) H
abbrev rMax2 : List V → Hp → VK → Prop := fun xs H Q => ∃ i j, xs = [.int i, .int j] ∧ Q (.int (if j > i then j else i)) H
abbrev rMin2 : List V → Hp → VK → Prop := fun xs H Q => ∃ i j, xs = [.int i, .int j] ∧ Q (.int (if j < i then j else i)) H
def rIntS : List V → Hp → VK → Prop := fun xs H Q => ∃ a n, xs = [.str a] ∧ PySem.intText? a = some n ∧ a.length ≤ 640 ∧ Q (.int n) H
def rIntG : List V → Hp → VK → Prop := fun xs H Q => (∃ i, xs = [.int i] ∧ Q (.int i) H) ∨ ∃ k, xs = [.bl k] ∧ Q (.int (if k then 1 else 0)) H
abbrev rBool1 : List V → Hp → VK → Prop := fun xs H Q => (∃ i, xs = [.int i] ∧ Q (.bl (i != 0)) H) ∨ ∃ k, xs = [.bl k] ∧ Q (.bl k) H
abbrev rStrG : List V → Hp → VK → Prop := fun xs H Q => ∃ i, xs = [.int i] ∧ i.natAbs.log2 < 1920 ∧ Q (.str (toString i)) H
def rListG (K : PySem.W.Frag) : List V → Hp → VK → Prop := fun xs H Q => (∃ p ys, xs = [.ref p] ∧ (SqL K H p ys ∨ SqT K H p ys) ∧ New H (.lst ys) fun l H' => Q (.ref l) H') ∨
  ∃ p kvs, xs = [.ref p] ∧ H p = some (.dK kvs) ∧ New H (.lst (kvs.map fun kv => kV kv.1)) fun q H' => Q (.ref q) H'
theorem call_listG (hc : X.calm = true) : CallR X (.type "list") (rListG X.K) := callr_imp (CallR.or call_list_of (call_list_dK hc)) fun xs H Q h => by
  rcases h with ⟨p, ys, e, h, n⟩ | ⟨p, kvs, e, h, n⟩
  · exact .inl ⟨p, ys, e, h, n.at⟩
  · exact .inr ⟨p, kvs, e, h, n.at⟩
def rTupleG (K : PySem.W.Frag) : List V → Hp → VK → Prop := fun xs H Q => ∃ p ys, xs = [.ref p] ∧ ((SqL K H p ys ∧ New H (.tup ys) fun l H' => Q (.ref l) H') ∨ (SqT K H p ys ∧ Q (.ref p) H))
theorem call_tupleG : CallR X (.type "tuple") (rTupleG X.K) := callr_imp call_tuple_of fun xs H Q ⟨p, ys, e, h⟩ => ⟨p, ys, e, h.imp (fun ⟨a, n⟩ => ⟨a, n.at⟩) id⟩
/-! ### methods of lists and texts -/
def rAppendG : V → List V → Hp → VK → Prop := fun x vs H Q => ∃ l xs y, x = .ref l ∧ vs = [y] ∧ H l = some (.lst xs) ∧ xs.length < sizeLine ∧ Put H l (.lst (xs ++ [y])) fun H' => Q .non H'
theorem mt_appendG : MtR X "list.append" rAppendG := mtr_imp mt_append fun x xs H Q ⟨l, ys, y, e1, e2, h, hl, q⟩ => ⟨l, ys, y, e1, e2, h, hl, q.at⟩
def rExtendG : V → List V → Hp → VK → Prop := fun x vs H Q => ∃ l b xs zs, x = .ref l ∧ vs = [.ref b] ∧ H l = some (.lst xs) ∧ H b = some (.lst zs) ∧ xs.length + zs.length ≤ sizeLine ∧ Put H l (.lst (xs ++ zs)) fun H' => Q .non H'
theorem mt_extendG : MtR X "list.extend" rExtendG := mtr_imp mt_extend fun x xs H Q ⟨l, b, ys, zs, e1, e2, h, h2, hl, q⟩ => ⟨l, b, ys, zs, e1, e2, h, h2, hl, q.at⟩
def rPopG : V → List V → Hp → VK → Prop := fun x vs H Q => ∃ l xs y, x = .ref l ∧ vs = [] ∧ H l = some (.lst xs) ∧ xs[xs.length - 1]? = some y ∧ Put H l (.lst xs.dropLast) fun H' => Q y H'
theorem mt_popG : MtR X "list.pop" rPopG := mtr_imp mt_pop fun x xs H Q ⟨l, ys, y, e1, e2, h, hl, q⟩ => ⟨l, ys, y, e1, e2, h, hl, q.at⟩
abbrev rIsiG := rIsi
theorem call_isiG : CallR X (.builtin "isinstance") (rIsiG X.K) := call_isi
def rSplitG : V → List V → Hp → VK → Prop := fun x xs H Q => ∃ a b, x = .str a ∧ xs = [.str b] ∧ (b.length == 0) = false ∧ a.length + 2 ≤ sizeLine ∧ New H (.lst ((Txt.split a b).map V.str)) fun p H' => Q (.ref p) H'
abbrev rJoinG (K : PySem.W.Frag) : V → List V → Hp → VK → Prop := fun x xs H Q => ∃ a p, ∃ ys : List Str, x = .str a ∧ xs = [.ref p] ∧ (SqL K H p (ys.map V.str) ∨ SqT K H p (ys.map V.str)) ∧
      (ys.map (·.length)).sum + ys.length * a.length ≤ 16777216 ∧ Q (.str (Txt.join a ys)) H
theorem pe_splitG {o e : Expr} {to te : TE} {apos pos : Pos} (ho : PE X o to) (he : PE X e te) (hs : starEach [e] X.env = [(false, eval e X.env)] := by rfl) (hbase : attributeBase o "split" X.env (eval o X.env) = eval o X.env := by rfl) (hline : (apos.endLine == pos.line) = true := by rfl) :
    PE X (.Call (.Attribute o "split" apos) [e] [] pos) (tM1 rSplitG to te) :=
  pe_m1 F.slot_str_split F.type_str_split (mtr_imp mt_split fun x xs H Q ⟨a, b, e1, e2, h1, h2, n⟩ => ⟨a, b, e1, e2, h1, h2, n.at⟩) ho he hs hbase hline
/-- a module's constant by its value -/
theorem pe_gc {x : Str} {v : V} {pos : Pos} (hg : Gl X x) (h : ∃ u, X.mg x = some u ∧ RelV v u) (hd : (x == ("__debug__" : Str)) = false := by decide) : PE X (.Name x pos) (tC v) := by
  obtain ⟨u, h1, h2⟩ := h
  exact pe_glob hg h1 h2 hd
end
/-! ### calls of the text's own defs -/
/-- a def that may be called by its name (no exception leaves it) -/
structure Cal (P : Program) (w : World) (K : PySem.W.Frag) (mg : Str → Option Value) (base : Heap) (k : Nat) (x : Str) (sp : Sp) : Prop where
  ex : ∃ (f : Addr) (fd : FuncData) (ps : List Str), FnOk P w K mg base CX0 k f fd ps sp ∧ mg x = some (.ref f) ∧ PySem.W.keepIn K (.ref f) = true ∧ Binds K fd ps []
section
variable {P : Program} {w : World} {K : PySem.W.Frag} {mg : Str → Option Value} {base : Heap}
theorem Cal.mono {j k : Nat} {x : Str} {sp : Sp} (c : Cal P w K mg base j x sp) (h : j ≤ k) : Cal P w K mg base k x sp := by
  obtain ⟨f, fd, ps, F, a, b, d⟩ := c.ex
  exact ⟨f, fd, ps, F.mono h, a, b, d⟩
theorem cal_mk {x : Str} {params : Arguments} {body : List Stmt} {scope : Scope} {f : Addr} {fd : FuncData} {N ps : List Str} {k : Nat} {sp : Sp} (F : FunD K x x params body scope [] [] f fd) (hm : mg x = some (.ref f)) (S : FnScope N ps scope)
    (b : Binds K fd ps []) (len : ∀ vs H Q E, sp vs H Q E → vs.length = ps.length)
    (hbody : ∀ (cdv : Value) (A : Around) (outer : List Env) (s : Shared) (H : Hp) (vs : List V) (Q : VK) (E : XK), Room k (A.deeper (envOfC x scope s.heap.objs.size f cdv)) → sp vs H Q E →
      ∃ t, PSs (cxOf CX0 P w K mg base N x scope f cdv A outer s H E) body t ∧ t { nx := fun _ H' => Q .non H', rt := Q } (start N vs) H) : Cal P w K mg base (k + 1) x sp :=
  ⟨f, fd, ps, F.ok S len hbody, hm, F.kp, b⟩
end
section
variable {X : Cx} {k : Nat} {x : Str} {sp : Sp} {p pos : Pos} {e : Expr} {es : List Expr} {t : TA}
theorem pe_cal (c : Cal X.prog X.w X.K X.mg X.base k x sp) (hr : Room k X.A) (hg : Gl X x) (ha : PA X (e :: es) t)
    (hdb : (x == ("__debug__" : Str)) = false := by decide) (he : starEach (e :: es) X.env = (false, eval e X.env) :: starEach es X.env := by rfl) (hpl : (backTo pos (starEach es X.env)).any (·.1) = false := by rfl) :
    PE X (.Call (.Name x p) (e :: es) [] pos) (tCall sp [] E0 t) := by
  obtain ⟨f, fd, ps, F, a, b, d⟩ := c.ex
  exact pe_call F hr hg a b d .nil pass0 ha hdb he hpl
end
/-- the slots at the entry: m of them -/
def startN (m : Nat) (vs : List V) : L2.St := vs.map some ++ List.replicate (m - vs.length) none
/-- what of a def is shown without the text: its reading, run at its parameters' values, keeps its promise -/
structure PureOk (n : Nat) (sp : Sp) (t : TS) (m : Nat) : Prop where
  len : ∀ vs H Q E, sp vs H Q E → vs.length = n
  run : ∀ vs H Q E, sp vs H Q E → t { nx := fun _ H' => Q .non H', rt := Q } (startN m vs) H
/-- a written table with text keys -/
def KTab (K : PySem.W.Frag) (w : World) (d : Addr) (kvs : List (Str × V)) : Prop := ∀ z : Str, KGet K w d z ((kvs.find? fun q => decide (q.1 = z)).map (·.2))

/-! ### readings, step by step -/
section
variable {K : PySem.W.Frag} {w : World} {D : Ends} {σ σ' : L2.St} {H : Hp} {Q : VK} {v x y : V} {i j : Int} {n : Nat} {ta tb tc te : TE} {t u : TS} {p a b : Addr} {xs ys : List V} {s z : Str}
theorem g_seq (h : t { D with nx := u D } σ H) : tSeq t u D σ H := h
theorem g_next (h : D.nx σ H) : tNext D σ H := h
theorem g_ret (h : te σ H D.rt) : tRet te D σ H := h
theorem g_drop (h : te σ H fun _ H1 => D.nx σ H1) : tDrop te D σ H := h
theorem g_ifs {c : TT} (h : c σ H fun b H1 => if b = true then t D σ H1 else u D σ H1) : tIfS c t u D σ H := h
theorem g_asg {g : TG} (h : te σ H fun x H1 => g x σ H1 D.nx) : tAsg te g D σ H := h
theorem g_par {k l : Nat} {ta : TA} (h : ta σ H fun vs H1 => ∃ v w, vs = [v, w] ∧ D.nx ((σ.set k (some v)).set l (some w)) H1) : tPar k l ta D σ H := h
theorem g_name {Q : L2.St → Hp → Prop} {k : Nat} (h : σ.set k (some v) = σ') (q : Q σ' H) : gName k v σ H Q := by subst h; exact q
theorem g_sub {to ti : TE} {ts : TSet} {Q : L2.St → Hp → Prop} (h : to σ H fun o H1 => ti σ H1 fun i H2 => ts o i v H2 fun H3 => Q σ H3) : gSub to ti ts v σ H Q := h
theorem g_var {k : Nat} (h : σ[k]? = some (some v)) (q : Q v H) : tVar k σ H Q := ⟨v, h, q⟩
theorem g_c (q : Q v H) : tC v σ H Q := q
theorem g_op {r : R2} (h : ta σ H fun x H1 => tb σ H1 fun y H2 => r x y H2 Q) : tOp r ta tb σ H Q := h
theorem g_ixop (h : ta σ H fun x H1 => tb σ H1 fun y H2 => rIxG K w x y H2 Q) : tIxG K w ta tb σ H Q := h
theorem g_un {r : V → Hp → VK → Prop} (h : ta σ H fun x H1 => r x H1 Q) : tUn r ta σ H Q := h
theorem g_neg (q : Q (.int (-i)) H) : rU (fun i => .int (-i)) (.int i) H Q := ⟨i, rfl, q⟩
theorem g_test {Q : Bool → Hp → Prop} (h : te σ H fun x H' => ∃ k, x = .bl k ∧ Q k H') : tTest te σ H Q := h
theorem g_not {c : TT} {Q : Bool → Hp → Prop} (h : c σ H fun c H1 => Q (!c) H1) : tNot c σ H Q := h
theorem g_and {c d : TT} {Q : Bool → Hp → Prop} (h : c σ H fun c H1 => if c = true then d σ H1 Q else Q false H1) : tAnd c d σ H Q := h
theorem g_or {c d : TT} {Q : Bool → Hp → Prop} (h : c σ H fun c H1 => if c = true then Q true H1 else d σ H1 Q) : tOr c d σ H Q := h
theorem g_tru {Q : Bool → Hp → Prop} (h : ta σ H fun x H' => ∃ k, TruV K x H' k ∧ Q k H') : tTru K ta σ H Q := h
theorem g_trubl {R : Bool → Prop} {k : Bool} (q : R k) : ∃ k', TruV K (.bl k) H k' ∧ R k' := ⟨k, rfl, q⟩
theorem g_truint {R : Bool → Prop} (q : R (i != 0)) : ∃ k', TruV K (.int i) H k' ∧ R k' := ⟨_, rfl, q⟩
theorem g_bl {R : Bool → Prop} {k : Bool} (q : R k) : ∃ k', V.bl k = .bl k' ∧ R k' := ⟨k, rfl, q⟩
theorem g_ifx {c : TT} (h : c σ H fun c H1 => if c = true then ta σ H1 Q else tb σ H1 Q) : tIf c ta tb σ H Q := h
theorem g_andT (h : ta σ H fun x H1 => ∃ k, TruV K x H1 k ∧ if k = true then tb σ H1 Q else Q x H1) : tAndT K ta tb σ H Q := h
theorem g_orT (h : ta σ H fun x H1 => ∃ k, TruV K x H1 k ∧ if k = true then Q x H1 else tb σ H1 Q) : tOrT K ta tb σ H Q := h
theorem g_notT (h : ta σ H fun x H1 => ∃ k, TruV K x H1 k ∧ Q (.bl (!k)) H1) : tNotT K ta σ H Q := h
theorem g_nil {Q : List V → Hp → Prop} (q : Q [] H) : tNil σ H Q := q
theorem g_cons {Q : List V → Hp → Prop} {tr : TA} (h : te σ H fun x H1 => tr σ H1 fun xs H2 => Q (x :: xs) H2) : tCons te tr σ H Q := h
theorem g_call {sp : Sp} {E : XK} {t : TA} (h : t σ H fun vs H1 => sp (vs ++ []) H1 Q E) : tCall sp [] E t σ H Q := h
theorem g_cb {r : List V → Hp → VK → Prop} {t : TA} (h : t σ H fun vs H1 => r vs H1 Q) : tCB r t σ H Q := h
theorem g_tup {t : TA} (h : t σ H fun xs H1 => xs.length ≤ sizeLine ∧ New H1 (.tup xs) fun p H2 => Q (.ref p) H2) : tTupN t σ H Q := h
theorem g_lst {t : TA} (h : t σ H fun xs H1 => xs.length ≤ sizeLine ∧ New H1 (.lst xs) fun p H2 => Q (.ref p) H2) : tLstN t σ H Q := h
theorem g_len {R : Prop} (hl : xs.length ≤ sizeLine) (q : R) : xs.length ≤ sizeLine ∧ R := ⟨hl, q⟩
theorem g_dnew (h : New H (.dK []) fun p H2 => Q (.ref p) H2) : tDNewKN σ H Q := h
theorem g_disp {trs : List (TE × TE)} (h : New H (.dK []) fun p H1 => tPairs trs σ H1 fun ps H2 => H2 p = some (.dK []) ∧ ∃ kvs : List (Key × V), ps = kvs.map (fun kv => (kV kv.1, kv.2)) ∧ kvs.length ≤ 15 ∧ Put H2 p (.dK (mergeK [] kvs)) fun H' => Q (.ref p) H') : tDispN trs σ H Q := h
theorem g_pnil {Q : List (V × V) → Hp → Prop} (q : Q [] H) : tPairs [] σ H Q := q
theorem g_pcons {Q : List (V × V) → Hp → Prop} {r : List (TE × TE)} (h : ta σ H fun x H1 => tb σ H1 fun y H2 => tPairs r σ H2 fun ps H3 => Q ((x, y) :: ps) H3) : tPairs ((ta, tb) :: r) σ H Q := h
theorem g_pairs {R : List (Key × V) → Prop} {ps : List (V × V)} (kvs : List (Key × V)) (hd : H p = some (.dK [])) (e : ps = kvs.map (fun kv => (kV kv.1, kv.2))) (hl : kvs.length ≤ 15) (q : R kvs) : H p = some (.dK []) ∧ ∃ kvs : List (Key × V), ps = kvs.map (fun kv => (kV kv.1, kv.2)) ∧ kvs.length ≤ 15 ∧ R kvs := ⟨hd, kvs, e, hl, q⟩
theorem g_get2 (h : ta σ H fun x H1 => ∃ a, x = .ref a ∧ IsD H1 a ∧ tb σ H1 fun y H2 => tc σ H2 fun z H3 => ∃ o, DGet H3 a y o ∧ Q (o.getD z) H3) : tDGet2 ta tb tc σ H Q := h
theorem g_bm {T : String} {r : V → List V → Hp → VK → Prop} {to : TE} {t : TA} (h : to σ H fun x H1 => tyV K T x H1 ∧ t σ H1 fun xs H2 => r x xs H2 Q) : tBM K T r to t σ H Q := h
theorem g_bm0 {T : String} {r : V → List V → Hp → VK → Prop} {to : TE} (h : to σ H fun x H1 => tyV K T x H1 ∧ r x [] H1 Q) : tBM0 K T r to σ H Q := h
theorem g_tyl {R : Prop} (h : SqL K H a xs) (q : R) : tyV K "list" (.ref a) H ∧ R := ⟨.inl ⟨rfl, xs, h⟩, q⟩
theorem g_m1 {r : V → List V → Hp → VK → Prop} {to te : TE} (h : to σ H fun x H1 => (∃ a, x = .str a) ∧ te σ H1 fun y H2 => r x [y] H2 Q) : tM1 r to te σ H Q := h
theorem g_isstr {R : Prop} (q : R) : (∃ a, V.str s = .str a) ∧ R := ⟨⟨s, rfl⟩, q⟩
/-- the operators by kinds -/
theorem g_addI (q : Q (.int (i + j)) H) : rAddG K (.int i) (.int j) H Q := .inl ⟨i, j, rfl, rfl, q⟩
theorem g_addS (hl : s.length + z.length ≤ sizeLine) (q : Q (.str (s ++ z)) H) : rAddG K (.str s) (.str z) H Q := .inr (.inl ⟨s, z, rfl, rfl, hl, q⟩)
theorem g_addL (h1 : H a = some (.lst xs)) (h2 : H b = some (.lst ys)) (hl : xs.length + ys.length ≤ sizeLine) (q : New H (.lst (xs ++ ys)) fun p H' => Q (.ref p) H') : rAddG K (.ref a) (.ref b) H Q := .inr (.inr (.inl ⟨a, b, xs, ys, rfl, rfl, h1, h2, hl, q⟩))
theorem g_subI (q : Q (.int (i - j)) H) : rSubG (.int i) (.int j) H Q := ⟨i, j, rfl, rfl, q⟩
theorem g_mulI (hc : CMul i j) (q : Q (.int (i * j)) H) : rMulG (.int i) (.int j) H Q := .inl ⟨i, j, rfl, rfl, hc, q⟩
theorem g_divI (hc : CDivW i j) (q : Q (.int (i / j)) H) : rDivG (.int i) (.int j) H Q := ⟨i, j, rfl, rfl, hc, q⟩
theorem g_modI (hc : 0 < j) (q : Q (.int (i % j)) H) : rModG (.int i) (.int j) H Q := ⟨i, j, rfl, rfl, hc, q⟩
theorem g_powI (hc : CPow i j) (q : Q (.int (i ^ j.toNat)) H) : rPowG (.int i) (.int j) H Q := ⟨i, j, rfl, rfl, hc, q⟩
theorem g_ltI (q : Q (.bl (decide (i < j))) H) : rLtG (.int i) (.int j) H Q := ⟨i, j, rfl, rfl, q⟩
theorem g_leI (q : Q (.bl (decide (i ≤ j))) H) : rLeG (.int i) (.int j) H Q := ⟨i, j, rfl, rfl, q⟩
theorem g_gtI (q : Q (.bl (decide (j < i))) H) : rGtG (.int i) (.int j) H Q := ⟨i, j, rfl, rfl, q⟩
theorem g_geI (q : Q (.bl (decide (j ≤ i))) H) : rGeG (.int i) (.int j) H Q := ⟨i, j, rfl, rfl, q⟩
theorem g_eqI (q : Q (.bl (decide (i = j))) H) : rEqG K (.int i) (.int j) H Q := .inl ⟨rfl, by rw [show decide (V.int i = V.int j) = decide (i = j) from by simp]; exact q⟩
theorem g_eqS (q : Q (.bl (decide (s = z))) H) : rEqG K (.str s) (.str z) H Q := .inl ⟨rfl, by rw [show decide (V.str s = V.str z) = decide (s = z) from by simp]; exact q⟩
theorem g_neI (q : Q (.bl (!decide (i = j))) H) : rNeG K (.int i) (.int j) H Q := .inl ⟨rfl, by rw [show decide (V.int i = V.int j) = decide (i = j) from by simp]; exact q⟩
theorem g_neS (q : Q (.bl (!decide (s = z))) H) : rNeG K (.str s) (.str z) H Q := .inl ⟨rfl, by rw [show decide (V.str s = V.str z) = decide (s = z) from by simp]; exact q⟩
theorem g_neD {d e : PyData} (h1 : Dp K H x d) (h2 : Dp K H y e) (h3 : SeqAt.shaped d = true) (h4 : SeqAt.shaped e = true) (q : Q (.bl (!PyData.eqv d e)) H) : rNeG K x y H Q := .inr (.inl ⟨d, e, h1, h2, h3, h4, q⟩)
theorem g_ixL (h : SqL K H p xs) (e : atI xs i = some v) (q : Q v H) : rIxG K w (.ref p) (.int i) H Q := .inl (.inl ⟨p, xs, i, v, rfl, rfl, h, e, q⟩)
theorem g_ixT (h : SqT K H p xs) (e : atI xs i = some v) (q : Q v H) : rIxG K w (.ref p) (.int i) H Q := .inl (.inr (.inl ⟨p, xs, i, v, rfl, rfl, h, e, q⟩))
theorem g_ixS {c : Nat} (hl : s.length ≤ sizeLine) (e : atI s.cps.toList i = some c) (q : Q (.str ⟨#[c]⟩) H) : rIxG K w (.str s) (.int i) H Q := .inl (.inr (.inr ⟨s, i, c, rfl, rfl, hl, e, q⟩))
theorem g_ixD {kvs : List (Key × V)} {k : Key} (h : H p = some (.dK kvs)) (hx : x = kV k) (e : valV kvs k = some v) (q : Q v H) : rIxG K w (.ref p) x H Q := .inr (.inl ⟨p, v, rfl, .inl ⟨kvs, k, .of h, hx, e.symm⟩, q⟩)
theorem g_setL {R : Hp → Prop} {k : Nat} (h : H p = some (.lst xs)) (e : ixN xs.length i = some k) (q : Put H p (.lst (xs.set k v)) R) : rSetG (.ref p) (.int i) v H R := .inl ⟨p, xs, i, k, rfl, rfl, h, e, q⟩
theorem g_lenL (h : SqL K H p xs) (q : Q (.int xs.length) H) : rLenG K [.ref p] H Q := .inl ⟨.ref p, xs.length, rfl, .inl ⟨xs, h, rfl⟩, q⟩
theorem g_lenT (h : SqT K H p xs) (q : Q (.int xs.length) H) : rLenG K [.ref p] H Q := .inl ⟨.ref p, xs.length, rfl, .inr ⟨xs, h, rfl⟩, q⟩
theorem g_lenS (h : s.length ≤ sizeLine) (q : Q (.int s.length) H) : rLenG K [.str s] H Q := .inl ⟨.str s, s.length, rfl, ⟨h, rfl⟩, q⟩
theorem g_abs (q : Q (.int i.natAbs) H) : rAbsG [.int i] H Q := ⟨i, rfl, by rw [show (if i < 0 then -i else i) = (i.natAbs : Int) from by split <;> omega]; exact q⟩
theorem g_max2 (q : Q (.int (max i j)) H) : rMax2 [.int i, .int j] H Q := ⟨i, j, rfl, by rw [show (if j > i then j else i) = max i j from by split <;> omega]; exact q⟩
theorem g_min2 (q : Q (.int (min i j)) H) : rMin2 [.int i, .int j] H Q := ⟨i, j, rfl, by rw [show (if j < i then j else i) = min i j from by split <;> omega]; exact q⟩
theorem g_intI (q : Q (.int i) H) : rIntG [.int i] H Q := .inl ⟨i, rfl, q⟩
theorem g_intB {k : Bool} (q : Q (.int (if k then 1 else 0)) H) : rIntG [.bl k] H Q := .inr ⟨k, rfl, q⟩
theorem g_listL (h : SqL K H p xs) (q : New H (.lst xs) fun l H' => Q (.ref l) H') : rListG K [.ref p] H Q := .inl ⟨p, xs, rfl, .inl h, q⟩
theorem g_listT (h : SqT K H p xs) (q : New H (.lst xs) fun l H' => Q (.ref l) H') : rListG K [.ref p] H Q := .inl ⟨p, xs, rfl, .inr h, q⟩
theorem g_tupleL (h : SqL K H p xs) (q : New H (.tup xs) fun l H' => Q (.ref l) H') : rTupleG K [.ref p] H Q := ⟨p, xs, rfl, .inl ⟨h, q⟩⟩
theorem g_tupleT (h : SqT K H p xs) (q : Q (.ref p) H) : rTupleG K [.ref p] H Q := ⟨p, xs, rfl, .inr ⟨h, q⟩⟩
theorem g_append (h : H a = some (.lst xs)) (hl : xs.length < sizeLine) (q : Put H a (.lst (xs ++ [v])) fun H' => Q .non H') : rAppendG (.ref a) [v] H Q := ⟨a, xs, v, rfl, rfl, h, hl, q⟩
theorem g_extend (h : H a = some (.lst xs)) (h2 : H b = some (.lst ys)) (hl : xs.length + ys.length ≤ sizeLine) (q : Put H a (.lst (xs ++ ys)) fun H' => Q .non H') : rExtendG (.ref a) [.ref b] H Q := ⟨a, b, xs, ys, rfl, rfl, h, h2, hl, q⟩
theorem g_pop (h : H a = some (.lst (xs ++ [v]))) (q : Put H a (.lst xs) fun H' => Q v H') : rPopG (.ref a) [] H Q := ⟨a, xs ++ [v], v, rfl, rfl, h, by simp, by simpa using q⟩
/-- a common rest of several ways -/
structure Rest (B : Prop) : Prop where
  out : B
theorem g_cut {A B : Prop} (f : Rest B → A) (b : B) : A := f ⟨b⟩
/-- the slices -/
theorem g_sl {r : V → Option Int → Option Int → Hp → VK → Prop} {tl th : TO} (h : te σ H fun x H1 => tl σ H1 fun l H2 => th σ H2 fun u H3 => r x l u H3 Q) : tSl r te tl th σ H Q := h
theorem g_nopart {Q : Option Int → Hp → Prop} (q : Q none H) : tNoPart σ H Q := q
theorem g_part {Q : Option Int → Hp → Prop} (h : te σ H fun x H1 => ∃ i, x = .int i ∧ Q (some i) H1) : tPart te σ H Q := h
theorem g_ispart {R : Int → Prop} (q : R i) : ∃ i', V.int i = .int i' ∧ R i' := ⟨i, rfl, q⟩
theorem g_slL {lo hi : Option Int} (h : SqL K H p xs) (q : New H (.lst (cutV xs lo hi)) fun l H' => Q (.ref l) H') : rSlG K (.ref p) lo hi H Q := .inl ⟨p, xs, rfl, h, q⟩
theorem g_slT {lo hi : Option Int} (h : SqT K H p xs) (hw : ¬ (HT.sIx xs.length 0 lo = 0 ∧ HT.sIx xs.length xs.length hi = xs.length)) (q : New H (.tup (cutV xs lo hi)) fun l H' => Q (.ref l) H') : rSlG K (.ref p) lo hi H Q :=
  .inr (.inl ⟨p, xs, rfl, h, fun e => absurd e hw, fun _ => q⟩)
theorem g_slS {lo hi : Option Int} (hl : s.length ≤ sizeLine) (q : Q (.str (cutS s lo hi)) H) : rSlG K (.str s) lo hi H Q := .inr (.inr ⟨s, rfl, hl, q⟩)
theorem g_rev (h : ta σ H fun x H1 => ∃ a xs, x = .ref a ∧ SqL K H1 a xs ∧ New H1 (.lst xs.reverse) fun p H' => Q (.ref p) H') : tRevG K ta σ H Q := h
theorem g_revL {R : List V → Prop} (h : SqL K H a xs) (q : R xs) : ∃ a' xs, V.ref a = .ref a' ∧ SqL K H a' xs ∧ R xs := ⟨a, xs, rfl, h, q⟩
/-- tests -/
theorem g_T {A B : Prop} {b : Bool} (hb : b = true) (h : A) : if b = true then A else B := by rw [if_pos hb]; exact h
theorem g_F {A B : Prop} {b : Bool} (hb : b = false) (h : B) : if b = true then A else B := by rw [if_neg (by rw [hb]; decide)]; exact h
theorem g_ite {A B : Prop} {b : Bool} (h1 : b = true → A) (h2 : b = false → B) : if b = true then A else B := by
  cases b
  · exact h2 rfl
  · exact h1 rfl
end

section
variable {K : PySem.W.Frag} {w : World} {H : Hp} {v : V} {i j : Int} {p a b : Addr} {xs ys : List V} {Q : VK}
theorem Chg.refl : Chg p H H := fun _ _ _ e => e
theorem Chg.trans {H1 H2 : Hp} (h : Chg p H H1) (h' : Chg p H1 H2) : Chg p H H2 := fun b o n e => h' b o n (h b o n e)
theorem Chg.same {H1 : Hp} (h : Same H H1) : Chg p H H1 := fun b o _ e => h b o e
/-- changes at a new object are none of the old ones -/
theorem Same.chg {H1 H2 : Hp} (h : Same H H1) (hp : H p = none) (c : Chg p H1 H2) : Same H H2 := fun b o e => c b o (ne_of_none e hp) (h b o e)
theorem atI_of {α : Type} {xs : List α} {i : Int} {v : α} (h0 : 0 ≤ i) (h : xs[i.toNat]? = some v) : atI xs i = some v := by
  have := atI_nat h
  rwa [Int.toNat_of_nonneg h0] at this
theorem atI_in {α : Type} {xs : List α} {i : Int} (h0 : 0 ≤ i) (h1 : i < xs.length) : ∃ v, atI xs i = some v ∧ v ∈ xs ∧ xs[i.toNat]? = some v := by
  have h2 : i.toNat < xs.length := by omega
  exact ⟨xs[i.toNat], atI_of h0 (List.getElem?_eq_getElem h2), List.getElem_mem h2, List.getElem?_eq_getElem h2⟩
end
/-! ### loops and comprehensions, by what holds at their turns -/
section
variable {K : PySem.W.Frag} {w : World} {H : Hp} {Q : VK} {p : Addr} {ss : List Str} {k : Str}
theorem inV_str : ∀ ss : List Str, inV (.str k) (ss.map V.str) = decide (k ∈ ss)
  | [] => by simp [inV]
  | s :: ss => by
    have ih := inV_str ss
    unfold inV at ih ⊢
    rw [List.map_cons, List.any_cons, ih]
    show (s == k || decide (k ∈ ss)) = _
    by_cases e : s = k
    · subst e; simp
    · have e' : ¬ k = s := fun z => e z.symm
      rw [show (s == k) = false from by simp [e]]
      simp [e']
theorem flat_strs : ∀ ss : List Str, (ss.map V.str).all flatV = true
  | [] => rfl
  | s :: ss => by rw [List.map_cons, List.all_cons, flat_strs ss]; rfl
theorem g_notInT (h : SqT K H p (ss.map V.str)) (q : Q (.bl (!decide (k ∈ ss))) H) : rInG K w true (.str k) (.ref p) H Q :=
  .inl ⟨p, ss.map V.str, rfl, .inr h, rfl, flat_strs ss, by rw [inV_str]; exact q⟩
theorem g_inL (h : SqL K H p (ss.map V.str)) (q : Q (.bl (decide (k ∈ ss))) H) : rInG K w false (.str k) (.ref p) H Q :=
  .inl ⟨p, ss.map V.str, rfl, .inl h, rfl, flat_strs ss, by rw [inV_str]; exact q⟩
theorem g_notInL (h : SqL K H p (ss.map V.str)) (q : Q (.bl (!decide (k ∈ ss))) H) : rInG K w true (.str k) (.ref p) H Q :=
  .inl ⟨p, ss.map V.str, rfl, .inl h, rfl, flat_strs ss, by rw [inV_str]; exact q⟩
theorem g_isi {x : V} {a b : String} {r : Bool} (ty : TyOf K H x (.type a)) (h : kitB a b = some r) (q : Q (.bl r) H) : rIsiG K [x, .ty b] H Q := ⟨x, .ty b, .type a, .type b, r, rfl, .ty b, .base ty, kit_ty h, q⟩
end
/-! what is walked -/
section
variable {K : PySem.W.Frag} {te : TE} {ta : TA} {σ : L2.St} {H : Hp} {R : It → Hp → Prop} {n : Int} {p : Addr} {xs : List V} {x : Str}
theorem g_rng1 (h : ta σ H fun vs H1 => ∃ j : Int, vs = [.int j] ∧ -(2 ^ 62) ≤ j ∧ j < 2 ^ 62 ∧ R (Itr 0 j.toNat) H1) : iRng1 ta σ H R := h
theorem g_isrng {R : Int → Prop} (h1 : -(2 ^ 62) ≤ n) (h2 : n < 2 ^ 62) (q : R n) : ∃ j : Int, [V.int n] = [.int j] ∧ -(2 ^ 62) ≤ j ∧ j < 2 ^ 62 ∧ R j := ⟨n, rfl, h1, h2, q⟩
theorem g_seqL (h : te σ H fun x H1 => ∃ a, x = .ref a ∧ (∃ xs, SqL K H1 a xs) ∧ R (Itl K a) H1) : iSeq K te σ H R := .inl h
theorem g_seqT (h : te σ H fun x H1 => ∃ a, x = .ref a ∧ (∃ xs, SqT K H1 a xs) ∧ R (Itt K a) H1) : iSeq K te σ H R := .inr (.inl h)
theorem g_seqS (h : te σ H fun v H1 => ∃ x, v = .str x ∧ R (Its x) H1) : iSeq K te σ H R := .inr (.inr h)
theorem g_isL {R : Addr → Prop} (h : SqL K H p xs) (q : R p) : ∃ a, V.ref p = .ref a ∧ (∃ xs, SqL K H a xs) ∧ R a := ⟨p, rfl, ⟨xs, h⟩, q⟩
theorem g_isT {R : Addr → Prop} (h : SqT K H p xs) (q : R p) : ∃ a, V.ref p = .ref a ∧ (∃ xs, SqT K H a xs) ∧ R a := ⟨p, rfl, ⟨xs, h⟩, q⟩
theorem g_isS {R : Str → Prop} (q : R x) : ∃ y, V.str x = .str y ∧ R y := ⟨x, rfl, q⟩
def LcW (J : It) (g : TG) (tt : TT) (te : TE) (vs : List Nat) (σ : L2.St) (H1 : Hp) (D : Addr) (Qd : Hp → Prop) : Prop := ∃ W : Nat → Nat → Hp → Prop, (∃ m, W 0 m (upd H1 D (.lst []))) ∧ ∀ i m H, W i m H →
  (J.stop i H ∧ Qd H) ∨ (J.go i H ∧ ∃ Nx : Hp → Prop, (∀ H', Nx H' → ∃ m', m' < m ∧ W (i + 1) m' H') ∧ ∀ x H', J.yld i H x H' → g x (wipe σ vs) H' fun σ2 H2 => wipe σ2 vs = wipe σ vs ∧ tt σ2 H2 fun b H3 =>
    if b = true then te σ2 H3 fun y H4 => ∃ acc, H4 D = some (.lst acc) ∧ acc.length < sizeLine ∧ Nx (upd H4 D (.lst (acc ++ [y]))) else Nx H3)
def LcR (J : It) (g : TG) (tt : TT) (te : TE) (vs : List Nat) (σ : L2.St) (H1 : Hp) (R : Addr → Hp → Prop) : Prop := ∀ D, H1 D = none → LcW J g tt te vs σ H1 D (R D)
def ForW (J : It) (g : TG) (tb : TS) (D : Ends) (σ : L2.St) (H1 : Hp) : Prop := ∃ W : Nat → Nat → L2.St → Hp → Prop, (∃ m, W 0 m σ H1) ∧ ∀ i m σ H, W i m σ H →
  (J.stop i H ∧ D.nx σ H) ∨ (J.go i H ∧ ∃ N : L2.St → Hp → Prop, (∀ σ' H', N σ' H' → ∃ m', m' < m ∧ W (i + 1) m' σ' H') ∧ ∀ x H', J.yld i H x H' → g x σ H' fun σ2 H2 => tb { D with nx := N, ct := N, bk := D.nx } σ2 H2)
theorem g_lc {g : TG} {tt : TT} {vs : List Nat} {wi : TI} {Q : VK} (h : wi σ H fun J H1 => LcR J g tt te vs σ H1 fun D H => Q (.ref D) H) : tLc wi g tt te vs σ H Q := h
theorem g_for {g : TG} {wi : TI} {tb : TS} {D : Ends} (h : wi σ H fun J H1 => ForW J g tb D σ H1) : tFor wi g tb D σ H := h
theorem g_yes {Q : Bool → Hp → Prop} (q : Q true H) : tYes σ H Q := q
end
section
variable {J : It} {g : TG} {tb : TS} {D : Ends} {σ : L2.St} {H H1 : Hp} {tt : TT} {te : TE} {vs : List Nat} {d : Addr} {Qd : Hp → Prop}
theorem for_any (n : Nat) (Pv : Nat → L2.St → Hp → Prop) (h0 : Pv 0 σ H) (hgo : ∀ i σ H, i < n → Pv i σ H → J.go i H) (hstop : ∀ σ H, Pv n σ H → J.stop n H)
    (hs : ∀ i x σ H H', i < n → Pv i σ H → J.yld i H x H' → g x σ H' fun σ2 H2 => tb { D with nx := Pv (i + 1), ct := Pv (i + 1), bk := D.nx } σ2 H2) (hd : ∀ σ H, Pv n σ H → D.nx σ H) :
    ForW J g tb D σ H := by
  refine ⟨fun i m σ H => Pv i σ H ∧ i ≤ n ∧ m = n - i, ⟨n, h0, Nat.zero_le _, rfl⟩, fun i m σ H ⟨hp, hi, hm⟩ => ?_⟩
  by_cases hin : i = n
  · subst hin
    exact .inl ⟨hstop _ _ hp, hd _ _ hp⟩
  · have hlt : i < n := by omega
    exact .inr ⟨hgo _ _ _ hlt hp, Pv (i + 1), fun σ' H' h' => ⟨n - (i + 1), by omega, h', hlt, rfl⟩, fun x H' hy => hs i x σ H H' hlt hp hy⟩
/-- the list at d behind the i-th turn -/
def NxR (R : Nat → List V → Hp → Prop) (d : Addr) (i : Nat) (H : Hp) : Prop := ∃ acc, H d = some (.lst acc) ∧ acc.length ≤ i ∧ R i acc H
theorem lc_step {R : Nat → List V → Hp → Prop} {i : Nat} {acc : List V} {y : V} (h : H d = some (.lst acc)) (hl : acc.length ≤ i) (hi : i < sizeLine) (q : Put H d (.lst (acc ++ [y])) fun H5 => R (i + 1) (acc ++ [y]) H5) :
    ∃ acc, H d = some (.lst acc) ∧ acc.length < sizeLine ∧ NxR R d (i + 1) (upd H d (.lst (acc ++ [y]))) :=
  ⟨acc, h, Nat.lt_of_le_of_lt hl hi, acc ++ [y], upd_same, by rw [List.length_append, List.length_singleton]; omega, q.at⟩
theorem lc_any (n : Nat) (R : Nat → List V → Hp → Prop) (hD : H1 d = none) (h0 : ∀ H', H' d = some (.lst []) → Same H1 H' → R 0 [] H') (hgo : ∀ i acc H, i < n → R i acc H → J.go i H) (hstop : ∀ acc H, R n acc H → J.stop n H)
    (hs : ∀ i x acc H H', i < n → acc.length ≤ i → R i acc H → H d = some (.lst acc) → J.yld i H x H' → g x (wipe σ vs) H' fun σ2 H2 => wipe σ2 vs = wipe σ vs ∧ tt σ2 H2 fun b H3 =>
      if b = true then te σ2 H3 fun y H4 => ∃ acc, H4 d = some (.lst acc) ∧ acc.length < sizeLine ∧ NxR R d (i + 1) (upd H4 d (.lst (acc ++ [y]))) else NxR R d (i + 1) H3)
    (hd : ∀ acc H, H d = some (.lst acc) → R n acc H → Qd H) :
    LcW J g tt te vs σ H1 d Qd := by
  refine ⟨fun i m H => NxR R d i H ∧ i ≤ n ∧ m = n - i, ⟨n, ⟨[], upd_same, Nat.le_refl _, h0 _ upd_same (same_upd hD)⟩, Nat.zero_le _, rfl⟩, fun i m H ⟨⟨acc, ha, hl, hr⟩, hi, hm⟩ => ?_⟩
  by_cases hin : i = n
  · subst hin
    exact .inl ⟨hstop _ _ hr, hd _ _ ha hr⟩
  · have hlt : i < n := by omega
    exact .inr ⟨hgo _ _ _ hlt hr, NxR R d (i + 1), fun H' h' => ⟨n - (i + 1), by omega, h', hlt, rfl⟩, fun x H' hy => hs i x acc H H' hlt hl hr ha hy⟩
end

/-! ### data of tuples alone -/
mutual
inductive Tp (H : Hp) : V → PyData → Prop
  | non : Tp H .non .none
  | bl (b : Bool) : Tp H (.bl b) (.bool b)
  | int (i : Int) : Tp H (.int i) (.int i)
  | str (x : Str) : Tp H (.str x) (.str x)
  | tup {a : Addr} {xs : List V} {ds : List PyData} : H a = some (.tup xs) → Tps H xs ds → Tp H (.ref a) (.tuple ds)
inductive Tps (H : Hp) : List V → List PyData → Prop
  | nil : Tps H [] []
  | cons {v : V} {vs : List V} {d : PyData} {ds : List PyData} : Tp H v d → Tps H vs ds → Tps H (v :: vs) (d :: ds)
end
/-- the tuples stay -/
def Tk (H H' : Hp) : Prop := ∀ b xs, H b = some (.tup xs) → H' b = some (.tup xs)
theorem Tk.refl (H : Hp) : Tk H H := fun _ _ e => e
theorem Tk.trans {H H1 H2 : Hp} (a : Tk H H1) (b : Tk H1 H2) : Tk H H2 := fun c xs e => b c xs (a c xs e)
theorem Same.tk {H H' : Hp} (s : Same H H') : Tk H H' := fun b xs e => s b _ e
theorem Chg.tk {H H' : Hp} {a : Addr} (c : Chg a H H') (h : ∀ xs, H a ≠ some (.tup xs)) : Tk H H' := fun b xs e => c b _ (fun z => h xs (z ▸ e)) e
theorem Chg.tkl {H H' : Hp} {a : Addr} {ys : List V} (c : Chg a H H') (h : H a = some (.lst ys)) : Tk H H' := c.tk fun xs e => by rw [h] at e; cases e
mutual
theorem Tp.mono {H H' : Hp} (k : Tk H H') : ∀ {d : PyData} {v : V}, Tp H v d → Tp H' v d
  | .none, _, h => by cases h; exact .non
  | .bool b, _, h => by cases h; exact .bl b
  | .int i, _, h => by cases h; exact .int i
  | .str x, _, h => by cases h; exact .str x
  | .tuple ds, _, h => by
    cases h with
    | tup e r => exact .tup (k _ _ e) (Tps.mono k r)
  | .list ds, _, h => by cases h
  | .dict ds, _, h => by cases h
theorem Tps.mono {H H' : Hp} (k : Tk H H') : ∀ {ds : List PyData} {vs : List V}, Tps H vs ds → Tps H' vs ds
  | [], _, h => by cases h; exact .nil
  | d :: ds, _, h => by
    cases h with
    | cons a b => exact .cons (Tp.mono k a) (Tps.mono k b)
end
mutual
theorem Tp.dp {K : PySem.W.Frag} {H : Hp} : ∀ {d : PyData} {v : V}, Tp H v d → Dp K H v d
  | .none, _, h => by cases h; exact .non
  | .bool b, _, h => by cases h; exact .bl b
  | .int i, _, h => by cases h; exact .int i
  | .str x, _, h => by cases h; exact .str x
  | .tuple ds, _, h => by
    cases h with
    | tup e r => exact .tup (.of e) (Tps.dp r)
  | .list ds, _, h => by cases h
  | .dict ds, _, h => by cases h
theorem Tps.dp {K : PySem.W.Frag} {H : Hp} : ∀ {ds : List PyData} {vs : List V}, Tps H vs ds → DpAll K H vs ds
  | [], _, h => by cases h; exact .nil
  | d :: ds, _, h => by
    cases h with
    | cons a b => exact .cons (Tp.dp a) (Tps.dp b)
end
section
variable {H : Hp} {xs ys : List V} {ds es : List PyData} {v : V} {d : PyData}
theorem Tps.length : ∀ {xs : List V} {ds : List PyData}, Tps H xs ds → xs.length = ds.length
  | [], _, h => by cases h; rfl
  | x :: xs, _, h => by
    cases h with
    | cons a b => rw [List.length_cons, List.length_cons, Tps.length b]
theorem Tps.append : ∀ {xs : List V} {ds : List PyData}, Tps H xs ds → Tps H ys es → Tps H (xs ++ ys) (ds ++ es)
  | [], _, h, h2 => by cases h; exact h2
  | x :: xs, _, h, h2 => by
    cases h with
    | cons a b => exact .cons a (Tps.append b h2)
theorem Tps.one (h : Tp H v d) : Tps H [v] [d] := .cons h .nil
theorem Tps.get : ∀ {xs : List V} {ds : List PyData} {i : Nat} {v : V}, Tps H xs ds → xs[i]? = some v → ∃ d, ds[i]? = some d ∧ Tp H v d
  | [], _, i, v, _, e => by simp at e
  | x :: xs, _, 0, v, h, e => by
    cases h with
    | cons a b =>
      simp only [List.getElem?_cons_zero, Option.some.injEq] at e
      subst e
      exact ⟨_, rfl, a⟩
  | x :: xs, _, i + 1, v, h, e => by
    cases h with
    | cons a b =>
      rw [List.getElem?_cons_succ] at e
      obtain ⟨d, h1, h2⟩ := Tps.get b e
      exact ⟨d, by rw [List.getElem?_cons_succ]; exact h1, h2⟩
theorem Tps.at : ∀ {xs : List V} {ds : List PyData} {i : Nat} {d : PyData}, Tps H xs ds → ds[i]? = some d → ∃ v, xs[i]? = some v ∧ Tp H v d
  | xs, [], i, d, _, e => by simp at e
  | _, d0 :: ds, 0, d, h, e => by
    cases h with
    | cons a b =>
      simp only [List.getElem?_cons_zero, Option.some.injEq] at e
      subst e
      exact ⟨_, rfl, a⟩
  | _, d0 :: ds, i + 1, d, h, e => by
    cases h with
    | cons a b =>
      rw [List.getElem?_cons_succ] at e
      obtain ⟨v, h1, h2⟩ := Tps.at b e
      exact ⟨v, by rw [List.getElem?_cons_succ]; exact h1, h2⟩
theorem Tps.take : ∀ {xs : List V} {ds : List PyData} (n : Nat), Tps H xs ds → Tps H (xs.take n) (ds.take n)
  | _, _, 0, _ => .nil
  | [], _, n + 1, h => by cases h; exact .nil
  | x :: xs, _, n + 1, h => by
    cases h with
    | cons a b => exact .cons a (Tps.take n b)
theorem Tps.drop : ∀ {xs : List V} {ds : List PyData} (n : Nat), Tps H xs ds → Tps H (xs.drop n) (ds.drop n)
  | _, _, 0, h => h
  | [], _, n + 1, h => by cases h; exact .nil
  | x :: xs, _, n + 1, h => by
    cases h with
    | cons a b => exact Tps.drop n b
theorem Tps.reverse : ∀ {xs : List V} {ds : List PyData}, Tps H xs ds → Tps H xs.reverse ds.reverse
  | [], _, h => by cases h; exact .nil
  | x :: xs, _, h => by
    cases h with
    | cons a b =>
      rw [List.reverse_cons, List.reverse_cons]
      exact Tps.append (Tps.reverse b) (.one a)
theorem Tps.strs : ∀ ss : List Str, Tps H (ss.map V.str) (ss.map PyData.str)
  | [] => .nil
  | s :: ss => .cons (.str s) (Tps.strs ss)
end
def isName (s : Str) : Prop := 1 ≤ s.length ∧ s.length ≤ 8 ∧ ∀ c ∈ s.cps.toList, 97 ≤ c ∧ c < 123
/-! ### parts -/
inductive K1 | left | right
  deriving DecidableEq
def K1.word : K1 → Str
  | .left => "left"
  | .right => "right"
inductive K2 | give | plus | less | times | below | pair
  deriving DecidableEq
def K2.word : K2 → Str
  | .give => "give"
  | .plus => "plus"
  | .less => "less"
  | .times => "times"
  | .below => "below"
  | .pair => "pair"
mutual
inductive Part
  | num (n : Int) | name (x : Str) | fn (f : Str) | one (k : K1) (a : Part) | two (k : K2) (a b : Part) | whn (a b c : Part) | letp (r : Rows) (a : Part) | shut (a : Part)
inductive Rows
  | nil | cons (x : Str) (a : Part) (r : Rows)
end
mutual
def Part.data : Part → PyData
  | .num n => .tuple [.str "number", .int n]
  | .name x => .tuple [.str "name", .str x]
  | .fn f => .tuple [.str "fun", .str f]
  | .one k a => .tuple [.str k.word, a.data]
  | .two k a b => .tuple [.str k.word, a.data, b.data]
  | .whn a b c => .tuple [.str "when", a.data, b.data, c.data]
  | .letp r a => .tuple [.str "let", .tuple r.datas, a.data]
  | .shut a => .tuple [.str "shut", a.data]
def Rows.datas : Rows → List PyData
  | .nil => []
  | .cons x a r => .tuple [.str x, a.data] :: r.datas
end
mutual
/-- how many parts -/
def Part.size : Part → Nat
  | .num _ => 1
  | .name _ => 1
  | .fn _ => 1
  | .one _ a => 1 + a.size
  | .two _ a b => 1 + (a.size + b.size)
  | .whn a b c => 1 + (a.size + (b.size + c.size))
  | .letp r a => 1 + (r.size + a.size)
  | .shut _ => 1
def Rows.size : Rows → Nat
  | .nil => 0
  | .cons _ a r => a.size + r.size
end
mutual
def Part.deep : Part → Nat
  | .num _ => 1
  | .name _ => 1
  | .fn _ => 1
  | .one _ a => 1 + a.deep
  | .two _ a b => 1 + max a.deep b.deep
  | .whn a b c => 1 + max a.deep (max b.deep c.deep)
  | .letp r a => 1 + max r.deep a.deep
  | .shut _ => 1
def Rows.deep : Rows → Nat
  | .nil => 0
  | .cons _ a r => max a.deep r.deep
end
def Rows.names : Rows → List Str
  | .nil => []
  | .cons x _ r => x :: r.names
def Rows.parts : Rows → List Part
  | .nil => []
  | .cons _ a r => a :: r.parts
def Rows.app : Rows → Rows → Rows
  | .nil, s => s
  | .cons x a r, s => .cons x a (r.app s)
def Part.kids : Part → List Part
  | .num _ => []
  | .name _ => []
  | .fn _ => []
  | .one _ a => [a]
  | .two _ a b => [a, b]
  | .whn a b c => [a, b, c]
  | .letp r a => r.parts ++ [a]
  | .shut _ => []
mutual
/-- the names of the rows of all lets, in the order of places -/
def Part.rowNames : Part → List Str
  | .num _ => []
  | .name _ => []
  | .fn _ => []
  | .one _ a => a.rowNames
  | .two _ a b => a.rowNames ++ b.rowNames
  | .whn a b c => a.rowNames ++ (b.rowNames ++ c.rowNames)
  | .letp r a => r.names ++ (r.rowNames ++ a.rowNames)
  | .shut _ => []
def Rows.rowNames : Rows → List Str
  | .nil => []
  | .cons _ a r => a.rowNames ++ r.rowNames
end
mutual
/-- a part of a program: names in scope, funs there, small numbers, one to four rows -/
def Part.ok (fs : List Str) : List Str → Part → Prop
  | sc, .num n => n.natAbs < 10 ^ 60
  | sc, .name x => x ∈ sc ∧ isName x
  | sc, .fn f => f ∈ fs ∧ isName f
  | sc, .one _ a => a.ok fs sc
  | sc, .two _ a b => a.ok fs sc ∧ b.ok fs sc
  | sc, .whn a b c => a.ok fs sc ∧ b.ok fs sc ∧ c.ok fs sc
  | sc, .letp r a => r.names.length ≤ 4 ∧ r.names ≠ [] ∧ (∀ x ∈ r.names, isName x) ∧ r.ok fs (sc ++ r.names) ∧ a.ok fs (sc ++ r.names)
  | _, .shut _ => False
def Rows.ok (fs : List Str) : List Str → Rows → Prop
  | _, .nil => True
  | sc, .cons _ a r => a.ok fs sc ∧ r.ok fs sc
end
theorem Rows.app_datas : ∀ r s : Rows, (r.app s).datas = r.datas ++ s.datas
  | .nil, s => rfl
  | .cons x a r, s => by
    show _ :: (r.app s).datas = _
    rw [Rows.app_datas r s]
    rfl
theorem Rows.app_names : ∀ r s : Rows, (r.app s).names = r.names ++ s.names
  | .nil, s => rfl
  | .cons x a r, s => by
    show _ :: (r.app s).names = _
    rw [Rows.app_names r s]
    rfl
/-! ### written tables, from what the top has left -/
theorem keys_miss {P : Params} {z : Str} : ∀ {l : List DictEntry} {ks : List Str}, l.map He.keyOf = He.keysIn P ks → z ∉ ks → l.find? (·.key.isStr z) = none ∧ l.any (·.refKey) = false
  | [], _, _, _ => ⟨rfl, rfl⟩
  | e :: r, [], h, _ => by cases h
  | e :: r, k :: ks, h, hz => by
    have h1 : He.keyOf e :: r.map He.keyOf = some (k, PyData.keyHash P k) :: He.keysIn P ks := h
    injection h1 with h2 h3
    obtain ⟨i1, i2⟩ := keys_miss h3 fun m => hz (List.mem_cons_of_mem _ m)
    unfold He.keyOf at h2
    split at h2
    · rename_i x t q
      obtain ⟨h5, h6⟩ := Prod.mk.inj (Option.some.inj h2)
      have hne : ¬ x = z := fun e => hz (by rw [← e, h5]; exact List.mem_cons_self ..)
      refine ⟨?_, ?_⟩
      · rw [List.find?_cons, show e.key.isStr z = false from by rw [q, PySem.W.isStr_of]; show (x == z) = false; simp [hne]]
        exact i1
      · rw [List.any_cons, i2, Bool.or_false]
        unfold DictEntry.refKey
        rw [q]
    · cases h2
theorem ktab_of {K : PySem.W.Frag} {w : World} {a : Addr} {kvs : List (Str × He.Dv)} (h : He.dicW K a = some (He.keysIn w.params (kvs.map (·.1)))) (hv : He.valsB K a kvs = true) : KTab K w a (kvs.map fun q => (q.1, q.2.v K)) := by
  intro z
  obtain ⟨es, n, D⟩ := He.dicW_ok h
  refine ⟨es, n, D, ?_⟩
  by_cases hz : z ∈ kvs.map (·.1)
  · right
    obtain ⟨q0, hq0, rfl⟩ := List.mem_map.mp hz
    cases hf : kvs.find? (fun q => decide (q.1 = q0.1)) with
    | none =>
      have := List.find?_eq_none.mp hf q0 hq0
      simp at this
    | some q =>
      have hq := List.mem_of_find?_eq_some hf
      have hqe := List.find?_some hf
      have hqe := of_decide_eq_true hqe
      obtain ⟨u, h1, h2⟩ := He.valsB_ok hv hq
      refine ⟨u, q.2.v K, ?_, by rw [← hqe]; exact h1, h2⟩
      rw [List.find?_map]
      show Option.map _ (Option.map _ (kvs.find? fun q => decide (q.1 = q0.1))) = _
      rw [hf]
      rfl
  · left
    have hl : es.toList.map He.keyOf = He.keysIn w.params (kvs.map (·.1)) := by
      unfold He.dicW at h
      rw [D.at_] at h
      dsimp only at h
      split at h
      · exact Option.some.inj h
      · cases h
    obtain ⟨i1, i2⟩ := keys_miss hl hz
    refine ⟨?_, ?_⟩
    · rw [List.find?_map]
      show Option.map _ (Option.map _ (kvs.find? fun q => decide (q.1 = z))) = _
      rw [show kvs.find? (fun q => decide (q.1 = z)) = none from List.find?_eq_none.mpr fun q hq e => hz (by rw [← of_decide_eq_true e]; exact List.mem_map.mpr ⟨q, hq, rfl⟩)]
      rfl
    · unfold PySem.W.nsIn
      rw [D.at_]
      dsimp only
      rw [i1]
      dsimp only
      rw [i2]
      rfl
theorem tab_at {fa : List He.Fa} {fn : List He.DefD} {ts : List He.Tab} {w : World} {K : PySem.W.Frag} (c : He.SaysT fa fn ts w K) (i : Nat) {t : He.Tab} (h : ts[i]? = some t) : He.dicW K (t.1 K) = some (He.keysIn w.params t.2) := by
  have e : ts.map (fun t => He.dicW K (t.1 K)) = ts.map fun t => some (He.keysIn w.params t.2) := congrArg (fun z : He.AlT => z.2) c
  have e2 : (ts.map fun t => He.dicW K (t.1 K))[i]? = (ts.map fun t => some (He.keysIn w.params t.2))[i]? := by rw [e]
  rw [List.getElem?_map, List.getElem?_map, h] at e2
  exact Option.some.inj e2

/-! ### more methods of lists -/
section
variable {X : Cx}
def rClearG : V → List V → Hp → VK → Prop := fun x vs H Q => ∃ l xs, x = .ref l ∧ vs = [] ∧ H l = some (.lst xs) ∧ Put H l (.lst []) fun H' => Q .non H'
/-! dicts: a copy, a clearing -/
def rDClearG : V → List V → Hp → VK → Prop := fun x vs H Q => ∃ (a : Addr) (kvs : List (Key × V)), x = .ref a ∧ vs = [] ∧ H a = some (.dK kvs) ∧ Put H a (.dK []) fun H' => Q .non H'
def rDictG : List V → Hp → VK → Prop := fun xs H Q => ∃ (a : Addr) (kvs : List (Key × V)), xs = [.ref a] ∧ H a = some (.dK kvs) ∧ New H (.dK kvs) fun p H' => Q (.ref p) H'
/-- a list so many times -/
def rRepG : R2 := fun x y H Q => ∃ l k xs, x = .ref l ∧ y = .int k ∧ H l = some (.lst xs) ∧ -(2 ^ 63) ≤ k ∧ k < 2 ^ 63 ∧ xs.length * k.toNat ≤ sizeLine ∧ New H (.lst (List.replicate k.toNat xs).flatten) fun p H' => Q (.ref p) H'
/-- a statement that is never come to -/
def tNever : TS := fun _ _ _ => False
theorem ps_never {st : Stmt} : PS X st tNever := ⟨fun _ _ _ _ _ _ h => h.elim⟩
/-- dict(l) of a list of pairs -/
def rDictP (K : PySem.W.Frag) : List V → Hp → VK → Prop := fun xs H Q => ∃ (a : Addr) (ps : List Addr) (kvs : List (Key × V)), xs = [.ref a] ∧ SqL K H a (ps.map V.ref) ∧ Paired (fun p kv => SqT K H p [kV kv.1, kv.2]) ps kvs ∧ New H (.dK (mergeK [] kvs)) fun p H' => Q (.ref p) H'
end
section
variable {K : PySem.W.Frag} {w : World} {H : Hp} {Q : VK} {a : Addr} {xs : List V} {ss : List Str} {k : Str} {j : Nat} {R : It → Hp → Prop} {σ : L2.St} {ta : TA}
theorem g_enum (h : ta σ H fun vs H1 => ∃ a xs, vs = [.ref a] ∧ SqL K H1 a xs ∧ R (Ite K a) H1) : iEnum K ta σ H R := h
end

/-! ### what is known of a heap, from the heaps ahead -/
section
variable {H H1 H' : Hp} {a b d p : Addr} {o : HO} {xs ys : List V}
theorem Same.to (s : Same H H') (h : H b = some o) : H' b = some o := s b o h
theorem Chg.to (c : Chg a H H') (h : H b = some o) (n : b ≠ a) : H' b = some o := c b o n h
theorem Tk.to (k : Tk H H') (h : H b = some (.tup xs)) : H' b = some (.tup xs) := k b xs h
/-- nothing is at p (a word of its own, so that it is found by its heap) -/
def Fr (H : Hp) (p : Addr) : Prop := H p = none
theorem ne_fr (h : H b = some o) (h' : Fr H a) : b ≠ a := ne_of_none h h'
theorem New.mk {R : Addr → Hp → Prop} (h : ∀ p H', Fr H p → H' p = some o → Same H H' → R p H') : New H o R := h
theorem Put.mk {R : Hp → Prop} (h : ∀ H', H' a = some o → Chg a H H' → R H') : Put H a o R := h
theorem Chg.free (c : Chg a H H') (n : b ≠ a) (h : H' b = none) : H b = none := by
  cases e : H b with
  | none => rfl
  | some o => rw [c b o n e] at h; cases h
theorem Chg.fresh (i : Chg p H H1) (hd : H d = none) (c : Chg d H1 H') : Chg p H H' := fun b o hb e => c b o (ne_of_none e hd) (i b o hb e)
theorem Tk.same (i : Tk H H1) (s : Same H1 H') : Tk H H' := i.trans (Same.tk s)
theorem Tk.lst (i : Tk H H1) (c : Chg a H1 H') (h : H1 a = some (.lst ys)) : Tk H H' := i.trans (c.tkl h)
theorem Tk.dct {kvs : List (Key × V)} (i : Tk H H1) (c : Chg a H1 H') (h : H1 a = some (.dK kvs)) : Tk H H' := i.trans (c.tk fun xs e => by rw [h] at e; cases e)
theorem Same.more (i : Same H H1) (s : Same H1 H') : Same H H' := i.trans s
theorem Same.more2 (i : Same H H1) (c : Chg d H1 H') (h : H d = none) : Same H H' := Same.chg i h c
theorem Tp.to {v : V} {e : PyData} (h : Tp H v e) (k : Tk H H') : Tp H' v e := h.mono k
theorem Tps.to {vs : List V} {es : List PyData} (h : Tps H vs es) (k : Tk H H') : Tps H' vs es := h.mono k
end
section
variable {K : PySem.W.Frag} {w : World} {H : Hp} {v x y z : V} {i j k : Nat} {p a b : Addr} {xs ys : List V} {Q : VK} {σ : L2.St}
theorem g_ixTa {i : Int} (h : H p = some (.tup xs)) (e : xs[i.toNat]? = some v) (h0 : 0 ≤ i) (q : Q v H) : rIxG K w (.ref p) (.int i) H Q := g_ixT (.of h) (atI_of h0 e) q
theorem g_ixLa {i : Int} (h : H p = some (.lst xs)) (e : xs[i.toNat]? = some v) (h0 : 0 ≤ i) (q : Q v H) : rIxG K w (.ref p) (.int i) H Q := g_ixL (.of h) (atI_of h0 e) q
theorem g_isLa {R : Addr → Prop} (h : H p = some (.lst xs)) (q : R p) : ∃ a, V.ref p = .ref a ∧ (∃ xs, SqL K H a xs) ∧ R a := g_isL (.of h) q
theorem g_isTa {R : Addr → Prop} (h : H p = some (.tup xs)) (q : R p) : ∃ a, V.ref p = .ref a ∧ (∃ xs, SqT K H a xs) ∧ R a := g_isT (.of h) q
theorem g_inX {k : Str} {r : Bool} (h : H p = some (.tup xs)) (f : xs.all flatV = true) (e : inV (.str k) xs = r) (q : Q (.bl r) H) : rInG K w false (.str k) (.ref p) H Q := .inl ⟨p, xs, rfl, .inr (.of h), rfl, f, by rw [e]; exact q⟩
theorem g_notInX {k : Str} {r : Bool} (h : H p = some (.tup xs)) (f : xs.all flatV = true) (e : inV (.str k) xs = r) (q : Q (.bl (!r)) H) : rInG K w true (.str k) (.ref p) H Q := .inl ⟨p, xs, rfl, .inr (.of h), rfl, f, by rw [e]; exact q⟩
end
/-! comprehensions that make of each item one thing, where no old object changes -/
theorem Tps.of_get {H : Hp} : ∀ {us : List V} {ds : List PyData}, us.length = ds.length → (∀ (i : Nat) y, us[i]? = some y → ∃ d, ds[i]? = some d ∧ Tp H y d) → Tps H us ds
  | [], [], _, _ => .nil
  | u :: us, d :: ds, hl, h => by
    refine .cons ?_ (Tps.of_get (Nat.succ.inj hl) fun i y hy => h (i + 1) y hy)
    obtain ⟨d', h1, h2⟩ := h 0 u rfl
    cases h1
    exact h2
section
variable {K : PySem.W.Frag} {H1 : Hp} {g : TG} {te : TE} {vs : List Nat} {σ : L2.St} {a : Addr} {xs : List V} {Qd : Addr → Hp → Prop} {F : Nat → V → Hp → Prop}
theorem lc_map_any {J : It} (hJ1 : ∀ i H', i < xs.length → Same H1 H' → J.go i H') (hJ2 : ∀ H', Same H1 H' → J.stop xs.length H') (hJ3 : ∀ i H' x H2, Same H1 H' → J.yld i H' x H2 → H2 = H' ∧ xs[i]? = some x)
    (hl : xs.length ≤ 100000) (F : Nat → V → Hp → Prop) (hF : ∀ i y H H', Tk H H' → F i y H → F i y H')
    (hs : ∀ (i : Nat) x H' (Nx : V → Hp → Prop), xs[i]? = some x → Same H1 H' → (∀ y H4, Same H' H4 → F i y H4 → Nx y H4) → g x (wipe σ vs) H' fun σ2 H2 => wipe σ2 vs = wipe σ vs ∧ te σ2 H2 Nx)
    (hd : ∀ D (ys : List V) H', Fr H1 D → H' D = some (.lst ys) → ys.length = xs.length → (∀ (i : Nat) y, ys[i]? = some y → F i y H') → Same H1 H' → Qd D H') : LcR J g tYes te vs σ H1 Qd := by
  intro D hD
  refine lc_any xs.length (fun i acc H' => acc.length = i ∧ (∀ (j : Nat) y, acc[j]? = some y → F j y H') ∧ Same H1 H') hD (fun H' _ s => ⟨rfl, by simp, s⟩) (fun i acc H' hi ⟨_, _, s⟩ => hJ1 i H' hi s) (fun acc H' ⟨_, _, s⟩ => hJ2 H' s) ?_ ?_
  · rintro i x acc H2 H' hi hla ⟨ha, hf, s2⟩ hd2 hy
    obtain ⟨rfl, hx⟩ := hJ3 i _ _ _ s2 hy
    refine hs i x _ _ hx s2 fun y H4 s4 f4 => ?_
    refine lc_step (s4 _ _ hd2) hla (by show _ < 16777216; omega) fun H5 e5 c5 => ?_
    have k5 : Tk H4 H5 := c5.tkl (s4 _ _ hd2)
    refine ⟨by rw [List.length_append, ha]; rfl, fun j z hz => ?_, Same.chg (s2.trans s4) hD c5⟩
    by_cases hj : j < acc.length
    · rw [List.getElem?_append_left hj] at hz
      exact hF _ _ _ _ ((Same.tk s4).trans k5) (hf j z hz)
    · have hj2 : j < (acc ++ [y]).length := (List.getElem?_eq_some_iff.mp hz).1
      rw [List.length_append, List.length_singleton] at hj2
      have : j = acc.length := by omega
      subst this
      rw [List.getElem?_append_right (Nat.le_refl _), Nat.sub_self] at hz
      cases hz
      rw [ha]
      exact hF _ _ _ _ k5 f4
  · rintro acc H' hd2 ⟨ha, hf, s⟩
    exact hd D acc H' hD hd2 ha hf s
theorem lc_mapT (ea : H1 a = some (.tup xs)) (hl : xs.length ≤ 100000) (F : Nat → V → Hp → Prop) (hF : ∀ i y H H', Tk H H' → F i y H → F i y H')
    (hs : ∀ (i : Nat) x H' (Nx : V → Hp → Prop), xs[i]? = some x → Same H1 H' → (∀ y H4, Same H' H4 → F i y H4 → Nx y H4) → g x (wipe σ vs) H' fun σ2 H2 => wipe σ2 vs = wipe σ vs ∧ te σ2 H2 Nx)
    (hd : ∀ D (ys : List V) H', Fr H1 D → H' D = some (.lst ys) → ys.length = xs.length → (∀ (i : Nat) y, ys[i]? = some y → F i y H') → Same H1 H' → Qd D H') : LcR (Itt K a) g tYes te vs σ H1 Qd :=
  lc_map_any (xs := xs) (fun i H' hi s => ⟨_, _, .of (s _ _ ea), List.getElem?_eq_getElem hi⟩) (fun H' s => ⟨_, .of (s _ _ ea), Nat.le_refl _⟩) (fun i H' x H2 s ⟨e, hx⟩ => ⟨e, hx _ (.of (s _ _ ea))⟩) hl F hF hs hd
theorem lc_mapL (ea : H1 a = some (.lst xs)) (hl : xs.length ≤ 100000) (F : Nat → V → Hp → Prop) (hF : ∀ i y H H', Tk H H' → F i y H → F i y H')
    (hs : ∀ (i : Nat) x H' (Nx : V → Hp → Prop), xs[i]? = some x → Same H1 H' → (∀ y H4, Same H' H4 → F i y H4 → Nx y H4) → g x (wipe σ vs) H' fun σ2 H2 => wipe σ2 vs = wipe σ vs ∧ te σ2 H2 Nx)
    (hd : ∀ D (ys : List V) H', Fr H1 D → H' D = some (.lst ys) → ys.length = xs.length → (∀ (i : Nat) y, ys[i]? = some y → F i y H') → Same H1 H' → Qd D H') : LcR (Itl K a) g tYes te vs σ H1 Qd :=
  lc_map_any (xs := xs) (fun i H' hi s => ⟨_, _, .of (s _ _ ea), List.getElem?_eq_getElem hi⟩) (fun H' s => ⟨_, .of (s _ _ ea), Nat.le_refl _⟩) (fun i H' x H2 s ⟨e, hx⟩ => ⟨e, hx _ (.of (s _ _ ea))⟩) hl F hF hs hd
end
/-! for over a tuple, over a list that stays -/
section
variable {K : PySem.W.Frag} {g : TG} {tb : TS} {D : Ends} {σ : L2.St} {H : Hp} {a : Addr} {xs : List V}
theorem for_T (Pv : Nat → L2.St → Hp → Prop) (ha : ∀ i σ H', Pv i σ H' → H' a = some (.tup xs)) (h0 : Pv 0 σ H)
    (hs : ∀ (i : Nat) x σ H', xs[i]? = some x → Pv i σ H' → g x σ H' fun σ2 H2 => tb { D with nx := Pv (i + 1), ct := Pv (i + 1), bk := D.nx } σ2 H2) (hd : ∀ σ H', Pv xs.length σ H' → D.nx σ H') : ForW (Itt K a) g tb D σ H :=
  for_any xs.length Pv h0 (fun i σ H' hi p => ⟨_, _, .of (ha _ _ _ p), List.getElem?_eq_getElem hi⟩) (fun σ H' p => ⟨_, .of (ha _ _ _ p), Nat.le_refl _⟩)
    (fun i x σ H1 H2 hi p ⟨e, hx⟩ => by subst e; exact hs i x σ _ (hx _ (.of (ha _ _ _ p))) p) hd
theorem for_L (Pv : Nat → L2.St → Hp → Prop) (ha : ∀ i σ H', Pv i σ H' → H' a = some (.lst xs)) (h0 : Pv 0 σ H)
    (hs : ∀ (i : Nat) x σ H', xs[i]? = some x → Pv i σ H' → g x σ H' fun σ2 H2 => tb { D with nx := Pv (i + 1), ct := Pv (i + 1), bk := D.nx } σ2 H2) (hd : ∀ σ H', Pv xs.length σ H' → D.nx σ H') : ForW (Itl K a) g tb D σ H :=
  for_any xs.length Pv h0 (fun i σ H' hi p => ⟨_, _, .of (ha _ _ _ p), List.getElem?_eq_getElem hi⟩) (fun σ H' p => ⟨_, .of (ha _ _ _ p), Nat.le_refl _⟩)
    (fun i x σ H1 H2 hi p ⟨e, hx⟩ => by subst e; exact hs i x σ _ (hx _ (.of (ha _ _ _ p))) p) hd
end
section
variable {K : PySem.W.Frag} {w : World} {H H' : Hp} {Q : VK} {a b : Addr} {xs ys : List V} {kvs : List (Key × V)}
theorem g_dict (h : H a = some (.dK kvs)) (q : New H (.dK kvs) fun p H' => Q (.ref p) H') : rDictG [.ref a] H Q := ⟨a, kvs, rfl, h, q⟩
theorem g_addTn (h1 : H a = some (.tup xs)) (h2 : H b = some (.tup ys)) (hl : xs.length + ys.length ≤ sizeLine) (ny : ys ≠ []) (q : ∀ c H', H' c = some (.tup (xs ++ ys)) → Same H H' → Q (.ref c) H') : rAddG K (.ref a) (.ref b) H Q := by
  refine .inr (.inr (.inr ⟨a, b, xs, ys, rfl, rfl, .of h1, .of h2, hl, fun e => ?_, fun _ e => absurd e ny, fun _ _ p H' _ e s => q p H' e s⟩))
  subst e
  exact q b H h2 (.refl _)
/-- a list and an empty one -/
theorem g_neNil (h : H a = some (.lst xs)) (h2 : H b = some (.lst [])) (q : Q (.bl (!xs.isEmpty)) H) : rNeG K (.ref a) (.ref b) H Q := by
  cases xs with
  | nil => exact .inr (.inr (.inr (.inl ⟨1, by decide, .inl ⟨a, b, [], [], rfl, rfl, .of h, .of h2, .nil⟩, q⟩)))
  | cons x xs => exact .inr (.inr (.inr (.inr ⟨a, b, _, _, rfl, rfl, .of h, .of h2, by simp, q⟩)))
theorem g_eqNil (h : H a = some (.lst xs)) (h2 : H b = some (.lst [])) (q : Q (.bl xs.isEmpty) H) : rEqG K (.ref a) (.ref b) H Q := by
  cases xs with
  | nil => exact .inr (.inr (.inr (.inl ⟨1, by decide, .inl ⟨a, b, [], [], rfl, rfl, .of h, .of h2, .nil⟩, q⟩)))
  | cons x xs => exact .inr (.inr (.inr (.inr ⟨a, b, _, _, rfl, rfl, .of h, .of h2, by simp, q⟩)))
def GTup (K : PySem.W.Frag) (a : Addr) (xs : List V) : Prop := ∀ H : Hp, SqT K H a xs
theorem g_inGT {k : Str} {r : Bool} (h : GTup K a xs) (f : xs.all flatV = true) (e : inV (.str k) xs = r) (q : Q (.bl r) H) : rInG K w false (.str k) (.ref a) H Q := .inl ⟨a, xs, rfl, .inr (h H), rfl, f, by rw [e]; exact q⟩
theorem g_neBI {i j : Int} (q : Q (.bl (!decide (i = j))) H) : rNeB K (.int i) (.int j) H Q := .inl (g_neI q)
theorem g_neBS {i j : Str} (q : Q (.bl (!decide (i = j))) H) : rNeB K (.str i) (.str j) H Q := .inl (g_neS q)
theorem g_eqBI {i j : Int} (q : Q (.bl (decide (i = j))) H) : rEqB K (.int i) (.int j) H Q := .inl (g_eqI q)
theorem g_eqBS {i j : Str} (q : Q (.bl (decide (i = j))) H) : rEqB K (.str i) (.str j) H Q := .inl (g_eqS q)
end
/-! Classes of the text: methods called, objects made, attributes read and set. -/
open PySem L2 PyProof.Rows PySem.Spec
/-- a method that may be called on objects of its class (no exception leaves it) -/
structure MCal (P : Program) (w : World) (K : PySem.W.Frag) (mg : Str → Option Value) (base : Heap) (k : Nat) (C : Addr) (m : Str) (sp : Sp) : Prop where
  ex : ∃ (f : Addr) (fd : FuncData) (ps : List Str), FnOk P w K mg base CX0 k f fd ps sp ∧ Meth K C m f ∧ Cls K C ∧ Binds K fd ps []
/-- a class whose objects may be made -/
structure KCal (P : Program) (w : World) (K : PySem.W.Frag) (mg : Str → Option Value) (base : Heap) (k : Nat) (x : Str) (C : Addr) (sp : Sp) : Prop where
  ex : ∃ (j : Nat) (f : Addr) (fd : FuncData) (ps : List Str), j + 1 ≤ k ∧ FnOk P w K mg base CX0 j f fd ps sp ∧ Mk K C f ∧ mg x = some (.ref C) ∧ Binds K fd ps []
section
variable {P : Program} {w : World} {K : PySem.W.Frag} {mg : Str → Option Value} {base : Heap}
theorem MCal.mono {j k : Nat} {C : Addr} {m : Str} {sp : Sp} (c : MCal P w K mg base j C m sp) (h : j ≤ k) : MCal P w K mg base k C m sp := by
  obtain ⟨f, fd, ps, F, a, b, d⟩ := c.ex
  exact ⟨f, fd, ps, F.mono h, a, b, d⟩
theorem KCal.mono {j k : Nat} {x : Str} {C : Addr} {sp : Sp} (c : KCal P w K mg base j x C sp) (h : j ≤ k) : KCal P w K mg base k x C sp := by
  obtain ⟨i, f, fd, ps, hi, F, a, b, d⟩ := c.ex
  exact ⟨i, f, fd, ps, Nat.le_trans hi h, F, a, b, d⟩
theorem mcal_mk {m q : Str} {C : Addr} {params : Arguments} {body : List Stmt} {scope : Scope} {f : Addr} {fd : FuncData} {N ps : List Str} {k : Nat} {sp : Sp} (F : FunD K m q params body scope [] [] f fd) (hm : Meth K C m f) (hc : Cls K C) (S : FnScope N ps scope)
    (b : Binds K fd ps []) (len : ∀ vs H Q E, sp vs H Q E → vs.length = ps.length)
    (hbody : ∀ (cdv : Value) (A : Around) (outer : List Env) (s : Shared) (H : Hp) (vs : List V) (Q : VK) (E : XK), Room k (A.deeper (envOfC q scope s.heap.objs.size f cdv)) → sp vs H Q E →
      ∃ t, PSs (cxOf CX0 P w K mg base N q scope f cdv A outer s H E) body t ∧ t { nx := fun _ H' => Q .non H', rt := Q } (start N vs) H) : MCal P w K mg base (k + 1) C m sp :=
  ⟨f, fd, ps, F.ok S len hbody, hm, hc, b⟩
theorem kcal_mk {x q : Str} {C : Addr} {params : Arguments} {body : List Stmt} {scope : Scope} {f : Addr} {fd : FuncData} {N ps : List Str} {k : Nat} {sp : Sp} (F : FunD K "__init__" q params body scope [] [] f fd) (hm : Mk K C f) (hg : mg x = some (.ref C)) (S : FnScope N ps scope)
    (b : Binds K fd ps []) (len : ∀ vs H Q E, sp vs H Q E → vs.length = ps.length)
    (hbody : ∀ (cdv : Value) (A : Around) (outer : List Env) (s : Shared) (H : Hp) (vs : List V) (Q : VK) (E : XK), Room k (A.deeper (envOfC q scope s.heap.objs.size f cdv)) → sp vs H Q E →
      ∃ t, PSs (cxOf CX0 P w K mg base N q scope f cdv A outer s H E) body t ∧ t { nx := fun _ H' => Q .non H', rt := Q } (start N vs) H) : KCal P w K mg base (k + 2) x C sp :=
  ⟨k + 1, f, fd, ps, Nat.le_refl _, F.ok S len hbody, hm, hg, b⟩
end
section
variable {X : Cx} {k : Nat} {x m : Str} {C : Addr} {sp : Sp} {p apos pos p0 : Pos} {o e : Expr} {es : List Expr} {ta : TE} {t : TA}
theorem pe_mcal {pl : Sem Bool} (he : PE X o ta) (c : MCal X.prog X.w X.K X.mg X.base k C m sp) (hr : Room k X.A) (ha : PA X (e :: es) t)
    (hst : starEach (e :: es) X.env = (false, eval e X.env) :: starEach es X.env := by rfl) (hpl : (backTo pos (starEach es X.env)).any (·.1) = false := by rfl)
    (ht : eval (.Call (.Attribute o m apos) (e :: es) [] pos) X.env = (do
      let ov ← eval o X.env
      standAt apos.atName
      let (f, first) ← holding [ov] (getMethod ov m pl)
      callWith pos f first (backTo pos (starEach (e :: es) X.env)) (backToKw pos (keywordEach [] X.env))) := by rfl) :
    PE X (.Call (.Attribute o m apos) (e :: es) [] pos) (tMeth C m sp [] E0 ta t) := by
  obtain ⟨f, fd, ps, F, hm, hc, b⟩ := c.ex
  exact pe_meth he hc hm F hr b .nil pass0 ha hst hpl ht
theorem pe_mcal0 {pl : Sem Bool} (he : PE X o ta) (c : MCal X.prog X.w X.K X.mg X.base k C m sp) (hr : Room k X.A)
    (ht : eval (.Call (.Attribute o m apos) [] [] pos) X.env = (do
      let ov ← eval o X.env
      standAt apos.atName
      let (f, first) ← holding [ov] (getMethod ov m pl)
      callWith pos f first (backTo pos (starEach [] X.env)) (backToKw pos (keywordEach [] X.env))) := by rfl) :
    PE X (.Call (.Attribute o m apos) [] [] pos) (tMeth C m sp [] E0 ta tNil) := by
  obtain ⟨f, fd, ps, F, hm, hc, b⟩ := c.ex
  exact pe_meth0 he hc hm F hr b .nil pass0 ht
theorem pe_kcal (c : KCal X.prog X.w X.K X.mg X.base k x C sp) (hr : Room k X.A) (hg : Gl X x) (ha : PA X (e :: es) t)
    (hdb : (x == ("__debug__" : Str)) = false := by decide) (he : starEach (e :: es) X.env = (false, eval e X.env) :: starEach es X.env := by rfl) (hpl : (backTo pos (starEach es X.env)).any (·.1) = false := by rfl) :
    PE X (.Call (.Name x p0) (e :: es) [] pos) (tMake C sp [] E0 t) := by
  obtain ⟨j, f, fd, ps, hj, F, hm, hC, b⟩ := c.ex
  exact pe_make hm F (hr.mono hj) hg hC b .nil pass0 ha hdb he hpl
end
/-! int of a text too -/
def rIntA : List V → Hp → VK → Prop := fun xs H Q => rIntG xs H Q ∨ rIntS xs H Q
theorem call_intA {X : Cx} : CallR X (.type "int") rIntA := CallR.or call_int1 call_int_str
theorem g_intT {s : Str} {n : Int} {H : Hp} {Q : VK} (h : PySem.intText? s = some n) (hl : s.length ≤ 640) (q : Q (.int n) H) : rIntA [.str s] H Q := .inr ⟨s, n, rfl, h, hl, q⟩
/-! fields, methods, new objects, in steps -/
def FldR (K : PySem.W.Frag) (f : Str) (x : V) (H : Hp) (Q : VK) : Prop := ∃ a C dx fs v, x = .ref a ∧ H a = some (.ins C dx fs) ∧ Cls K C ∧ NoAttr K C f ∧ fs.lookup f = some v ∧ Q v H
def SFldR (K : PySem.W.Frag) (f : Str) (y x : V) (H : Hp) (R : Hp → Prop) : Prop := ∃ a C dx fs, x = .ref a ∧ H a = some (.ins C dx fs) ∧ Cls K C ∧ NoAttr K C f ∧ fs.length < 1000 ∧ R (upd H a (.ins C dx (putF f y fs)))
def MethR (C : Addr) (m : Str) (x : V) (H : Hp) (R : V → Hp → Prop) : Prop := ∃ a dx fs, x = .ref a ∧ H a = some (.ins C dx fs) ∧ fs.lookup m = none ∧ R x H
def MakeR (C : Addr) (H : Hp) (R : Addr → Hp → Prop) : Prop := ∀ x dx, H x = none → H dx = none → dx ≠ x → R x (upd (upd H dx (.own x)) x (.ins C dx []))
section
variable {K : PySem.W.Frag} {f m : Str} {C a dx : Addr} {fs fs' : List (Str × V)} {v y : V} {H : Hp} {Q : VK} {R : Hp → Prop} {ta tv : TE} {t : TA} {σ : L2.St} {D : Ends} {sp : Sp} {E : XK}
theorem g_fld (h : ta σ H fun x H1 => FldR K f x H1 Q) : tFld K ta f σ H Q := h
theorem g_fldr (he : H a = some (.ins C dx fs)) (hc : Cls K C) (hn : NoAttr K C f) (hv : fs.lookup f = some v) (q : Q v H) : FldR K f (.ref a) H Q := ⟨a, C, dx, fs, v, rfl, he, hc, hn, hv, q⟩
theorem g_sfld (h : tv σ H fun y H1 => ta σ H1 fun x H2 => SFldR K f y x H2 fun H3 => D.nx σ H3) : sFld K ta tv f D σ H := h
theorem g_sfldr (he : H a = some (.ins C dx fs)) (hc : Cls K C) (hn : NoAttr K C f) (hl : fs.length < 1000) (hp : putF f y fs = fs') (q : Put H a (.ins C dx fs') R) : SFldR K f y (.ref a) H R :=
  ⟨a, C, dx, fs, rfl, he, hc, hn, hl, by rw [hp]; exact q.at⟩
theorem g_meth (h : ta σ H fun x H1 => MethR C m x H1 fun x H1 => t σ H1 fun vs H2 => sp (x :: (vs ++ [])) H2 Q E) : tMeth C m sp [] E ta t σ H Q := h
theorem g_methr {R : V → Hp → Prop} (he : H a = some (.ins C dx fs)) (hn : fs.lookup m = none) (q : R (.ref a) H) : MethR C m (.ref a) H R := ⟨a, dx, fs, rfl, he, hn, q⟩
theorem g_make (h : t σ H fun vs H1 => MakeR C H1 fun x H2 => sp (.ref x :: (vs ++ [])) H2 (fun v H3 => v = .non ∧ Q (.ref x) H3) E) : tMake C sp [] E t σ H Q := h
theorem g_maker {R : Addr → Hp → Prop} (q : ∀ x dx H', Fr H x → H' x = some (.ins C dx []) → Same H H' → R x H') : MakeR C H R := fun x dx hx hd hn => by
  refine q x dx _ hx upd_same fun b o hb => ?_
  have hbx : b ≠ x := fun e => by rw [e, hx] at hb; cases hb
  have hbd : b ≠ dx := fun e => by rw [e, hd] at hb; cases hb
  rw [upd_ne hbx, upd_ne hbd]
  exact hb
end

/-! Errors of the text's own: defs that let them out, raise, a try whose clause keeps the error, isinstance of a kept one, its name. -/
open PySem L2 PyProof.Rows PySem.Spec
/-! ### a kept error -/
/-- at a: an error of the class at C, its dict (none | at d) -/
def hxc (a C : Addr) (d : Option Addr) : HO := .ext fun h => ∃ oe vs, h.get? a = some oe ∧ oe.cls = .ref C ∧ oe.dict = d ∧ oe.data = .fields vs
theorem hxc_ok {P : Program} {w : World} {H : Hp} {h : Heap} {a C : Addr} {d : Option Addr} {oe : Obj} {vs : Array Value} (e : h.get? a = some oe) (h1 : oe.cls = .ref C) (h2 : oe.dict = d) (h3 : oe.data = .fields vs) : ObjOk P w H h a (hxc a C d) :=
  ⟨⟨oe, vs, e, h1, h2, h3⟩, ⟨oe, e⟩, fun x y ⟨o, us, p1, p2, p3, p4⟩ k => ⟨o, us, k o p1, p2, p3, p4⟩⟩
section
variable {X : Cx} {σ : L2.St} {H : Hp} {s : Shared} {pins : List (Addr × Obj)}
/-- the suite's error is kept: it is tracked from here on -/
theorem adopt {a C : Addr} {d : Option Addr} {oe : Obj} {vs : Array Value} (I : Inv (X.suite a ((a, oe) :: (X.pn ++ pins))) [] σ H s) (ok : X.Ok) (new : X.s_0.heap.get? a = none) (apart : ∀ p ∈ X.pn ++ pins, p.1 ≠ a) (h1 : oe.cls = .ref C) (h2 : oe.dict = d) (h3 : oe.data = .fields vs) :
    Inv X pins σ (upd H a (hxc a C d)) s := by
  obtain ⟨ea, na, nL, nF, _⟩ := I.pin (a, oe) (List.mem_append_left _ List.mem_cons_self)
  have b0 := I.base
  have u := I.unsuite ok
  have nb : ∀ b o, X.s_0.heap.get? b = some o → b ≠ a := fun b o e z => by rw [z, new] at e; cases e
  have keepH : ∀ b o, H b = some o → upd H a (hxc a C d) b = some o := fun b o e => by
    rw [upd_ne (fun z => by rw [z] at e; rw [e] at na; cases na)]
    exact e
  refine ⟨ok, u.os, u.bare, ⟨u.base.keep, u.base.slot, fun b o e n hx => ?_, u.base.there, fun b xs e => keepH _ _ (u.base.tups b xs e), fun b o xs e => keepH _ _ (u.base.frzs b o xs e), fun b ps e => ?_⟩, u.loc, u.cell, ?_, fun x c e => ?_, fun p hp => ?_, fun b o e => ?_, u.len⟩
  · rw [upd_ne (nb b o e)]
    exact u.base.free b o e n hx
  · obtain ⟨more, q⟩ := u.base.tbls b ps e
    exact ⟨more, keepH _ _ q⟩
  · rw [upd_ne (Ne.symm nL)]
    exact u.free
  · obtain ⟨v, o, ho, hd⟩ := u.cell x c e
    have hca : c ≠ a := fun z => by
      rw [z, ea] at ho
      cases ho
      rw [h3] at hd
      cases hd
    rw [upd_ne hca]
    exact u.freeC x c e
  · obtain ⟨p1, p2, p3, p4, p5⟩ := u.pin p hp
    exact ⟨p1, by rw [upd_ne (apart p hp)]; exact p2, p3, p4, p5⟩
  · by_cases hb : b = a
    · subst hb
      rw [upd_same] at e
      cases e
      exact hxc_ok ea h1 h2 h3
    · rw [upd_ne hb] at e
      exact (u.hok b o e).stay (fun _ _ _ q => q) (fun c q => keepH _ _ q) fun c xs q => keepH _ _ q
end
/-- what 'except x as n' wishes of an error of the body, where every one is caught and kept behind the suite -/
def wKeep (K : PySem.W.Frag) (c : Value) (i : Nat) (ts : Addr → Value → Option Addr → TS) (D : Ends) : WX := fun cls d σ H =>
  ∃ C, cls = .ref C ∧ PySem.W.exmOne K cls c = some true ∧ ∀ a, H a = none → ts a cls d { nx := fun σ' H' => D.nx (σ'.set i none) (upd H' a (hxc a C d)), rt := fun _ _ => False } (σ.set i (some (.ref a))) H
section
variable {X : Cx} {x n : Str} {c : Value} {i : Nat} {body suite : List Stmt} {b₀ : Stmt} {np pos pos' : Pos} {tb : WX → TS} {ts : Addr → Value → Option Addr → TS}
theorem ps_try_keep (hs : X.stack = X.env :: X.outer) (hf : X.env.frame = some X.env.locals) (hex : X.ex = []) (hN : X.N.Nodup) (hi : X.N[i]? = some n) (hln : X.env.kindOf n = some .local) (hc : Names X x c)
    (hb : ∀ (W : WX) (pn : List (Addr × Obj)) (xe : Value → Shared → Prop), Takes (X.tr pn xe) W → PassesOwn (model X.prog X.w) X.A X.env xe → PSs (X.tr pn xe) body (tb W))
    (hsu : ∀ (a : Addr) (oe : Obj) (cls : Value) (d : Option Addr) (pn : List (Addr × Obj)), Zc cls d oe → (∃ vs, oe.data = .fields vs) → PSs (X.suite a ((a, oe) :: pn)) (b₀ :: suite) (ts a cls d)) :
    PS X (.Try body [.ExceptHandler (some (.Name x np)) (some n) (b₀ :: suite) pos'] [] [] pos) (fun D σ H => tb (wKeep X.K c i ts D) D σ H) := by
  refine ⟨fun pins s σ H D I h => ?_⟩
  have ok := I.ok
  have hfr : X.A.frames = some (X.env :: X.outer) := by rw [ok.frames, hs]
  -- the clause's name, looked up while the error at a is handled
  have test : ∀ {a : Addr} {oe : Obj} {σ1 : L2.St} {H1 : Hp} {s1 : Shared} {Q : Value → Shared → Prop} {E : Value → Shared → Prop}, Inv (X.suite a ((a, oe) :: (X.pn ++ pins))) [] σ1 H1 s1 → Q c s1 →
      wpAny (model X.prog X.w) (X.A.mark (some (.ref a))) (eval (.Name x np) X.env) Q E s1 := fun {a oe σ1 H1 s1 Q E} S q => by
    obtain ⟨hg, hdbg, hm | ⟨hm, hv, hnn⟩⟩ := hc
    · exact ld_glob S hg hm q hdbg
    · exact ld_blt S hg hm hv q hnn hdbg
  refine wpAny_Try_except (wpAny_mono ((hb (wKeep X.K c i ts D) (X.pn ++ pins) (fun e s₁ => wpAny (model X.prog X.w) X.A (noteFrame e X.env) (fun _ s₂ => wpAny (model X.prog X.w) X.A (setFlight e none) (fun _ s₃ =>
    wpAny (model X.prog X.w) X.A (handleBy e X.env [.ExceptHandler (some (.Name x np)) (some n) (b₀ :: suite) pos']) (SP X pins D) X.xe s₃) X.xe s₂) X.xe s₁) (fun u s' xx => ?_) PassesOwn.looking).run [] s σ H D (I.toTry _) h) (fun f s1 hsp => ?_) (fun e s1 he => he))
  · obtain ⟨a, B, sI, pins', σ', H', cls, d, rfl, J', nb, up, sky, na, os, ag, C, rfl, hex1, hyes⟩ := xx
    have J : Inv X pins σ' H' sI := J'.ofTry ok
    have sky' : Sky B (X.env :: X.outer) a (Zc (.ref C) d) X.env.locals s'.heap := by rw [← hs]; exact sky
    show wpAny (model X.prog X.w) X.A (noteFrame (.ref a) X.env) _ _ _
    refine Sky.land Zc.steady hfr hf sky' fun h3 fl3 up3 => ?_
    have J3 : Inv X pins σ' H' { s' with heap := h3 } := J.landed nb fl3.1 (up.trans up3) os ag
    obtain ⟨oe3, vs3, he3, hz3, hd3⟩ := fl3.there
    have nfr : a ∉ frs (X.env :: X.outer) := fun hm => by
      obtain ⟨_, o', e', hnf⟩ := fl3.2.2.1.mem hm
      rw [he3] at e'
      cases e'
      exact hnf _ hd3
    have nL : a ≠ X.env.locals := fun z => nfr (List.mem_filterMap.mpr ⟨X.env, List.mem_cons_self, by rw [hf, z]⟩)
    have nF : a ∉ X.fs := fun hm => by
      obtain ⟨e, he, q⟩ := List.mem_filterMap.mp hm
      exact nfr (List.mem_filterMap.mpr ⟨e, List.mem_cons_of_mem _ he, q⟩)
    -- the error is none of what stood ahead
    have young : sI.heap.get? a = none := by
      cases q : sI.heap.get? a with
      | none => rfl
      | some o =>
        have z := nb a o q (by rw [hs]; exact nfr)
        rw [fl3.2.1] at z
        cases z
    have new : X.s_0.heap.get? a = none := by
      cases q : X.s_0.heap.get? a with
      | none => rfl
      | some o =>
        obtain ⟨o', z⟩ := J.base.there a o q (by rw [hex]; exact List.not_mem_nil)
        rw [young] at z
        cases z
    have apart : ∀ p ∈ X.pn ++ pins, p.1 ≠ a := fun p hp z => by
      have q := (J.pin p hp).1
      rw [z, young] at q
      cases q
    have S3 := J3.suite he3 hd3 na nL nF
    refine wpAny_handleBy_cons (codeAny_handlers_test ?_) (by intro q; cases q)
    have LT : PySem.W.Looks (model X.prog X.w) h3 (typeOf (.ref a)) (.ref C) := fun A Q E s k q => wpAny_typeOf_ref (k _ _ he3) (by rw [hz3.1]; exact q)
    have LM := PySem.W.exm_one (M := model X.prog X.w) (J3.kIn) LT hex1
    refine test S3 (LM.here (codeAny_handlers_suite_as (HandSPX.lands_againZ fl3 fun h4 fl4 up4 => ?_)))
    have J4 : Inv X pins σ' H' { s' with heap := h4 } := J.landed nb fl4.1 ((up.trans up3).trans up4) os ag
    obtain ⟨oe4, vs4, he4, hz4, hd4⟩ := fl4.there
    have S4 := J4.suite he4 hd4 na nL nF
    refine store_ok (X := X.suite a ((a, oe4) :: (X.pn ++ pins))) (v := .ref a) S4 hN hi (.inl hln) rfl (fun s5 S5 => ?_) (.inr hln)
    refine wpAny_mono ((hsu a oe4 (.ref C) d (X.pn ++ pins) hz4 ⟨_, hd4⟩).run [] s5 _ H' _ S5 (hyes a na)) (fun f s6 hsp => ?_) (fun _ _ z => False.elim z)
    cases f with
    | next =>
      obtain ⟨σ6, H6, S6, q6⟩ := hsp
      exact gone_ok (X := X.suite a ((a, oe4) :: (X.pn ++ pins))) S6 hN hi hln fun s7 S7 => ⟨_, _, adopt S7 ok new apart hz4.1 hz4.2 hd4, q6⟩
    | brk => obtain ⟨_, _, _, q6⟩ := hsp; exact False.elim q6
    | cont => obtain ⟨_, _, _, q6⟩ := hsp; exact False.elim q6
    | ret u => obtain ⟨_, _, _, _, _, q6⟩ := hsp; exact False.elim q6
  · cases f with
    | next =>
      obtain ⟨σ', H', J', q⟩ := hsp
      exact wpAny_execs_nil ⟨σ', H', J'.ofTry ok, q⟩
    | brk =>
      obtain ⟨σ', H', J', q⟩ := hsp
      exact ⟨σ', H', J'.ofTry ok, q⟩
    | cont =>
      obtain ⟨σ', H', J', q⟩ := hsp
      exact ⟨σ', H', J'.ofTry ok, q⟩
    | ret u =>
      obtain ⟨v, σ', H', J', r, q⟩ := hsp
      exact ⟨v, σ', H', J'.ofTry ok, r, q⟩
end
/-! ### classes of errors, by a look at the written part -/
def eqV (a b : Option (Option Value)) : Bool := decide (a = b)
/-- what isinstance, attributes, an except clause want of a class -/
structure ExcK (K : PySem.W.Frag) (C : Addr) : Prop where
  cl : (PySem.W.clsIn K C).isSome = true
  ga : PySem.W.findIn K (.ref C) "__getattribute__" = some (some (.builtin "BaseException.__getattribute__"))
  gg : PySem.W.findIn K (.ref C) "__getattr__" = some none
  ex : PySem.W.subIn K (.ref C) (.type "BaseException") = some true
  hd : PySem.W.hasDictIn K C = true
  cs : PySem.W.findIn K (.ref C) "__class__" = some (some (.builtin "object.__class__"))
  gt : PySem.W.specialIn K (.builtin "object.__class__") "__get__" = some (some (.builtin "getset_descriptor.__get__"))
  tk : PySem.W.takesIn K (.builtin "object.__class__") = some true
  mr : PySem.W.mroIn K C (.type "object") = some true
  ty : PySem.W.typeIn K (.ref C) = some (.type "type")
  kp : PySem.W.keepIn K (.ref C) = true
def exkB (K : PySem.W.Frag) (C : Addr) : Bool :=
  (PySem.W.clsIn K C).isSome && (eqV (PySem.W.findIn K (.ref C) "__getattribute__") (some (some (.builtin "BaseException.__getattribute__"))) && (eqV (PySem.W.findIn K (.ref C) "__getattr__") (some none) &&
  (decide (PySem.W.subIn K (.ref C) (.type "BaseException") = some true) && (PySem.W.hasDictIn K C && (eqV (PySem.W.findIn K (.ref C) "__class__") (some (some (.builtin "object.__class__"))) &&
  (eqV (PySem.W.specialIn K (.builtin "object.__class__") "__get__") (some (some (.builtin "getset_descriptor.__get__"))) && (decide (PySem.W.takesIn K (.builtin "object.__class__") = some true) &&
  (decide (PySem.W.mroIn K C (.type "object") = some true) && (decide (PySem.W.typeIn K (.ref C) = some (.type "type")) && PySem.W.keepIn K (.ref C))))))))))
theorem exkB_ok {K : PySem.W.Frag} {C : Addr} (h : exkB K C = true) : ExcK K C := by
  unfold exkB eqV at h
  simp only [Bool.and_eq_true, decide_eq_true_iff] at h
  obtain ⟨h1, h2, h3, h4, h5, h6, h7, h8, h9, h10, h11⟩ := h
  exact ⟨h1, h2, h3, h4, h5, h6, h7, h8, h9, h10, h11⟩
/-- what the making of an error with fields wants -/
def oexB (K : PySem.W.Frag) (C : Addr) : Bool := (match K.lookup C with
  | some ⟨.type "type", _, .cls cd, sl⟩ => (match cd.mro, sl.toList with
    | .ref C' :: bm, [_, _, _, _, some (.builtin n), _] => C' == C && (n == "ValueError.__new__" && (!cd.hasDel && (cd.hasDict && PySem.HandSPX.refsVE bm)))
    | _, _ => false)
  | _ => false) && (eqV (PySem.W.findIn K (.ref C) "__setattr__") (some (some (.builtin "object.__setattr__"))) && (decide (PySem.W.subIn K (.ref C) (.type "BaseException") = some true) &&
    (decide (PySem.W.typeIn K (.ref C) = some (.type "type")) && PySem.W.keepIn K (.ref C))))
theorem oexB_ok {K : PySem.W.Frag} {C : Addr} (h : oexB K C = true) : OexC K C := by
  unfold oexB eqV at h
  simp only [Bool.and_eq_true, decide_eq_true_iff] at h
  obtain ⟨q, h1, h2, h3, h4⟩ := h
  refine ⟨?_, h1, h2, h3, h4⟩
  split at q
  · rename_i dd cd sl ho
    split at q
    · rename_i C' bm k0 k1 k2 k3 n k5 hm hs
      simp only [Bool.and_eq_true, beq_iff_eq, Bool.not_eq_true'] at q
      obtain ⟨rfl, rfl, hdel, hdict, ht⟩ := q
      obtain ⟨nm, bs, mro, ns, qn, hd, sn, sub, ab, col, del⟩ := cd
      dsimp only at hm hdel hdict
      subst hm hdel hdict
      have hsl : sl = #[k0, k1, k2, k3, some (.builtin "ValueError.__new__"), k5] := by
        obtain ⟨l⟩ := sl
        simp only at hs
        rw [hs]
      subst hsl
      exact ⟨nm, qn, ns, bs, bm, sn, sub, ab, col, dd, k0, k1, k2, k3, k5, ho, ht⟩
    · cases q
  · cases q
/-! ### isinstance of a kept error, its name -/
/-- isinstance(e, c), e a kept error -/
def rIsX (K : PySem.W.Frag) : List V → Hp → VK → Prop := fun xs H Q => ∃ (a C : Addr) (d : Option Addr) (c : V) (cv : Value) (b : Bool), xs = [.ref a, c] ∧ H a = some (hxc a C d) ∧ (∀ dd, d = some dd → ∃ fs, H dd = some (.xd fs)) ∧ ExcK K C ∧
  (∀ u, RelV c u → u = cv) ∧ PySem.W.kitOne K (.ref C) cv = some b ∧ Q (.bl b) H
section
variable {X : Cx} {pins : List (Addr × Obj)} {σ : L2.St} {H : Hp} {s : Shared}
theorem hxc_inst {a C : Addr} {d : Option Addr} (I : Inv X pins σ H s) (ha : H a = some (hxc a C d)) (hd : ∀ dd, d = some dd → ∃ fs, H dd = some (.xd fs)) : ∃ oe od, PySem.W.InstAt s.heap a oe C od ∧ (d = none → od = none) ∧ ∀ dd, d = some dd → ∃ o, od = some o ∧ s.heap.get? dd = some o := by
  obtain ⟨⟨oe, vs, e1, e2, e3, e4⟩, _⟩ := I.hok a _ ha
  cases d with
  | none =>
    refine ⟨oe, none, ⟨e1, e2, by unfold PySem.W.notCls; rw [e4], by rw [e3]; trivial⟩, fun _ => rfl, ?_⟩
    intro dd e
    cases e
  | some dd =>
    obtain ⟨fs, hfs⟩ := hd dd rfl
    obtain ⟨mA, ⟨od, es, ep, ho, hr⟩, _⟩ := I.hok dd _ hfs
    refine ⟨oe, some od, ⟨e1, e2, by unfold PySem.W.notCls; rw [e4], by rw [e3]; exact ho⟩, ?_, ?_⟩
    · intro e
      cases e
    · intro d' e
      cases e
      exact ⟨od, rfl, ho⟩
theorem call_isX : CallR X (.builtin "isinstance") (rIsX X.K) := by
  intro pins s σ H xs us Q I r h
  obtain ⟨a, C, d, c, cv, b, rfl, ha, hd, T, hcv, e, q⟩ := h
  cases r with
  | cons rx rr =>
    cases rr with
    | cons rt rr =>
      cases rr
      cases rx
      have ec := hcv _ rt
      subst ec
      obtain ⟨oe, od, J, _⟩ := hxc_inst I ha hd
      exact PySem.W.kia_one (PySem.W.kitx_exc T.cl T.ga T.gg T.ex T.cs T.gt T.tk T.mr) I.kIn J e (fun z => nomatch z) fun tk => ⟨.bl b, H, I.kept (t' := tk) fun _ _ z => z, rfl, q⟩
end
/-- e.f, e a kept error whose fields stand in its dict -/
def FldX (K : PySem.W.Frag) (f : Str) (x : V) (H : Hp) (Q : VK) : Prop := ∃ (a C dd : Addr) (fs : List (Str × V)) (v : V), x = .ref a ∧ H a = some (hxc a C (some dd)) ∧ H dd = some (.xd fs) ∧ ExcK K C ∧ PySem.W.findIn K (.ref C) f = some none ∧ fs.lookup f = some v ∧ Q v H
def tFldX (K : PySem.W.Frag) (f : Str) (te : TE) : TE := fun σ H Q => te σ H fun x H1 => FldX K f x H1 Q
section
variable {X : Cx} {W : WX} {E : XK} {x m f : Str} {C : Addr} {sp : Sp} {k j : Nat} {p p2 pos pos2 : Pos} {e : Expr} {es : List Expr} {te : TE} {ta : TA}
theorem pe_fldX (he : PE X e te) (hb : attributeBase e f X.env (eval e X.env) = eval e X.env := by rfl) : PE X (.Attribute e f pos) (tFldX X.K f te) := by
  refine ⟨fun pins s σ H Q I h => ?_⟩
  refine attr_of hb (thn (he.run pins s σ H _ I h) fun u s1 hh => ?_)
  obtain ⟨y, H1, I1, rx, a, C, dd, fs, v, rfl, ha, hd, T, hno, l, q⟩ := hh
  obtain rfl : u = Value.ref a := rx
  obtain ⟨oe, od, J, _, hod⟩ := hxc_inst I1 ha fun d' e' => by cases e'; exact ⟨fs, hd⟩
  obtain ⟨o', rfl, ho'⟩ := hod dd rfl
  obtain ⟨mA, hns, hr⟩ := I1.hok dd _ hd
  obtain ⟨od2, ho, hl⟩ := lookIn_ns hns
  rw [ho'] at ho
  cases ho
  obtain ⟨u, hu, ru⟩ := RelO.some_of (v := v) (o := mA f) (by rw [← l]; exact hr f)
  exact HandSPX.exc_get I1.kIn J T.ga T.gg T.ex (PySem.W.findObj_own T.hd hno rfl (by rw [hl, hu])) (handed_of ru) ⟨v, H1, I1.tok _, ru, q⟩
/-! ### raise -/
/-- raise C('m') -/
def tRaiseO (C : Addr) (E : XK) : TS := fun _ _ H => E (.ref C) none H
theorem ps_raiseO (hc : X.calm = true) (tk : Takes X (fun cls d _ H => E cls d H)) (q : PySem.W.excIn X.K C He.veBase "ValueError.__new__" = true) (gC : X.mg x = some (.ref C)) (T : ExcK X.K C) (hg : Gl X x) (hdb : (x == ("__debug__" : Str)) = false := by decide) :
    PS X (.Raise (some (.Call (.Name x p) [.Constant (.str m) j p2] [] pos)) none pos2) (tRaiseO C E) := ps_raise hc tk (pmk_own PySem.F.excBase_ValueError q gC T.kp (raises_own T.ex T.ty) hg hdb)
/-- a class of errors with fields: its __init__ keeps sp -/
structure Xal (P : Program) (w : World) (K : PySem.W.Frag) (mg : Str → Option Value) (base : Heap) (k : Nat) (x : Str) (C : Addr) (sp : Sp) : Prop where
  ex : ∃ (i : Nat) (fI : Addr) (fd : FuncData) (ps : List Str), i + 1 ≤ k ∧ FnOk P w K mg base CX0 i fI fd ps sp ∧ PySem.W.findIn K (.ref C) "__init__" = some (some (.ref fI)) ∧ PySem.W.typeIn K (.ref fI) = some (.type "function") ∧ OexC K C ∧ mg x = some (.ref C) ∧ Binds K fd ps []
theorem Xal.mono {P : Program} {w : World} {K : PySem.W.Frag} {mg : Str → Option Value} {base : Heap} {i k : Nat} (c : Xal P w K mg base i x C sp) (h : i ≤ k) : Xal P w K mg base k x C sp := by
  obtain ⟨j, f, fd, ps, hj, r⟩ := c.ex
  exact ⟨j, f, fd, ps, Nat.le_trans hj h, r⟩
/-- raise C(e, ..) -/
def tRaiseI (C : Addr) (sp : Sp) (E : XK) (ta : TA) : TS := fun _ σ H => tMkO C sp [] ta σ H fun cls d H' => E cls d H'
theorem ps_raiseI (hc : X.calm = true) (tk : Takes X (fun cls d _ H => E cls d H)) (c : Xal X.prog X.w X.K X.mg X.base k x C sp) (hr : Room k X.A) (hg : Gl X x) (ha : PA X (e :: es) ta)
    (hdb : (x == ("__debug__" : Str)) = false := by decide) (he : starEach (e :: es) X.env = (false, eval e X.env) :: starEach es X.env := by rfl) (hpl : (backTo pos (starEach es X.env)).any (·.1) = false := by rfl) :
    PS X (.Raise (some (.Call (.Name x p) (e :: es) [] pos)) none pos2) (tRaiseI C sp E ta) := by
  obtain ⟨j, fI, fd, ps, hj, F, iC, tI, T, hm, b⟩ := c.ex
  exact ps_raise hc tk (pmk_oex T iC tI F (hr.mono hj) b .nil pass0 hg hm ha hdb he hpl)
/-! ### calls of defs that let errors out -/
structure CalX (P : Program) (w : World) (K : PySem.W.Frag) (mg : Str → Option Value) (base : Heap) (k : Nat) (x : Str) (sp : Sp) : Prop where
  ex : ∃ (f : Addr) (fd : FuncData) (ps : List Str), FnOk P w K mg base (L2.CX P w) k f fd ps sp ∧ mg x = some (.ref f) ∧ PySem.W.keepIn K (.ref f) = true ∧ Binds K fd ps []
theorem CalX.mono {P : Program} {w : World} {K : PySem.W.Frag} {mg : Str → Option Value} {base : Heap} {i k : Nat} (c : CalX P w K mg base i x sp) (h : i ≤ k) : CalX P w K mg base k x sp := by
  obtain ⟨f, fd, ps, F, a, b, d⟩ := c.ex
  exact ⟨f, fd, ps, F.mono h, a, b, d⟩
theorem calx_mk {P : Program} {w : World} {K : PySem.W.Frag} {mg : Str → Option Value} {base : Heap} {params : Arguments} {body : List Stmt} {scope : Scope} {f : Addr} {fd : FuncData} {N ps : List Str} (F : FunD K x x params body scope [] [] f fd) (hm : mg x = some (.ref f)) (S : FnScope N ps scope)
    (b : Binds K fd ps []) (len : ∀ vs H Q E, sp vs H Q E → vs.length = ps.length)
    (hbody : ∀ (cdv : Value) (A : Around) (outer : List Env) (s : Shared) (H : Hp) (vs : List V) (Q : VK) (E : XK), Room k (A.deeper (envOfC x scope s.heap.objs.size f cdv)) → sp vs H Q E →
      ∃ t, PSs (cxOf (L2.CX P w) P w K mg base N x scope f cdv A outer s H E) body t ∧ t { nx := fun _ H' => Q .non H', rt := Q } (start N vs) H) : CalX P w K mg base (k + 1) x sp :=
  ⟨f, fd, ps, F.ok S len hbody, hm, F.kp, b⟩
theorem xal_mk {P : Program} {w : World} {K : PySem.W.Frag} {mg : Str → Option Value} {base : Heap} {q : Str} {params : Arguments} {body : List Stmt} {scope : Scope} {f : Addr} {fd : FuncData} {N ps : List Str} (F : FunD K "__init__" q params body scope [] [] f fd)
    (iC : PySem.W.findIn K (.ref C) "__init__" = some (some (.ref f))) (tI : PySem.W.typeIn K (.ref f) = some (.type "function")) (T : OexC K C) (hm : mg x = some (.ref C)) (S : FnScope N ps scope)
    (b : Binds K fd ps []) (len : ∀ vs H Q E, sp vs H Q E → vs.length = ps.length)
    (hbody : ∀ (cdv : Value) (A : Around) (outer : List Env) (s : Shared) (H : Hp) (vs : List V) (Q : VK) (E : XK), Room k (A.deeper (envOfC q scope s.heap.objs.size f cdv)) → sp vs H Q E →
      ∃ t, PSs (cxOf CX0 P w K mg base N q scope f cdv A outer s H E) body t ∧ t { nx := fun _ H' => Q .non H', rt := Q } (start N vs) H) : Xal P w K mg base (k + 2) x C sp :=
  ⟨k + 1, f, fd, ps, Nat.le_refl _, F.ok S len hbody, iC, tI, T, hm, b⟩
theorem pe_calx (c : CalX X.prog X.w X.K X.mg X.base k x sp) (hr : Room k X.A) (hg : Gl X x) (tk : Takes X W) (ha : PA X (e :: es) ta)
    (hdb : (x == ("__debug__" : Str)) = false := by decide) (he : starEach (e :: es) X.env = (false, eval e X.env) :: starEach es X.env := by rfl) (hpl : (backTo pos (starEach es X.env)).any (·.1) = false := by rfl) :
    PE X (.Call (.Name x p) (e :: es) [] pos) (tCallS sp (WE W) ta) := by
  obtain ⟨f, fd, ps, F, a, b, d⟩ := c.ex
  exact pe_callS F hr hg a b d (fun σ => passAt tk σ) ha hdb he hpl
/-- a call whose errors are the def's own -/
def tCallE (sp : Sp) (E : XK) (t : TA) : TE := tCallS sp (WE fun cls d _ H => E cls d H) t
theorem pe_calE (c : CalX X.prog X.w X.K X.mg X.base k x sp) (hr : Room k X.A) (hg : Gl X x) (tk : Takes X (fun cls d _ H => E cls d H)) (ha : PA X (e :: es) ta)
    (hdb : (x == ("__debug__" : Str)) = false := by decide) (he : starEach (e :: es) X.env = (false, eval e X.env) :: starEach es X.env := by rfl) (hpl : (backTo pos (starEach es X.env)).any (·.1) = false := by rfl) :
    PE X (.Call (.Name x p) (e :: es) [] pos) (tCallE sp E ta) := pe_calx c hr hg tk ha hdb he hpl
end
/-- isinstance, of anything plain, of a kept error -/
def rIsiX (K : PySem.W.Frag) : List V → Hp → VK → Prop := fun xs H Q => rIsi K xs H Q ∨ rIsX K xs H Q
theorem call_isiX {X : Cx} : CallR X (.builtin "isinstance") (rIsiX X.K) := CallR.or call_isi call_isX
/-- a try whose clause keeps the error -/
def tTryK (K : PySem.W.Frag) (c : Value) (i : Nat) (tb : WX → TS) (ts : Addr → Value → Option Addr → TS) : TS := fun D σ H => tb (wKeep K c i ts D) D σ H
/-- as PureOk, of a def that lets errors out -/
structure PureOkX (n : Nat) (sp : Sp) (t : XK → TS) (m : Nat) : Prop where
  len : ∀ vs H Q E, sp vs H Q E → vs.length = n
  run : ∀ vs H Q E, sp vs H Q E → t E { nx := fun _ H' => Q .non H', rt := Q } (startN m vs) H
/-! ### in steps -/
section
variable {K : PySem.W.Frag} {w : World} {H : Hp} {Q : VK} {σ : L2.St} {D : Ends} {E : XK} {C : Addr} {sp : Sp} {t : TA} {te : TE} {f : Str} {W : WX} {v : V}
theorem g_calS (h : t σ H fun vs H1 => sp vs H1 Q (WE W σ)) : tCallS sp (WE W) t σ H Q := h
theorem g_calE (h : t σ H fun vs H1 => sp vs H1 Q E) : tCallE sp E t σ H Q := h
theorem g_raiseO (h : E (.ref C) none H) : tRaiseO C E D σ H := h
theorem g_fldX (h : te σ H fun x H1 => FldX K f x H1 Q) : tFldX K f te σ H Q := h
/-- an error's __init__ with one field -/
def spXInit (K : PySem.W.Frag) (C : Addr) (f : Str) : Sp := fun vs H Q _ => ∃ (a : Addr) (v : V), vs = [.ref a, v] ∧ H a = some (exo a C none) ∧ ∀ dx, H dx = none → dx ≠ a → Q .non (upd (upd H dx (exd dx [(f, v)])) a (exo a C (some dx)))
def RaiseR (C : Addr) (sp : Sp) (E : XK) (vs : List V) (H1 : Hp) : Prop := vs.length ≤ 1000 ∧ ∀ a, H1 a = none → sp (.ref a :: (vs ++ [])) (upd H1 a (exo a C none))
  (fun v H2 => v = .non ∧ ∃ (d : Addr) (fs : List (Str × V)), H2 a = some (exo a C (some d)) ∧ H2 d = some (exd d fs) ∧ H1 d = none ∧ E (.ref C) (some d) (upd (del H2 a) d (.xd fs))) (fun _ _ _ => False)
theorem g_raiseI (h : t σ H fun vs H1 => RaiseR C sp E vs H1) : tRaiseI C sp E t D σ H := h
theorem g_raise1 (q : ∀ d H', H d = none → H' d = some (.xd [(f, v)]) → Same H H' → E (.ref C) (some d) H') : RaiseR C (spXInit K C f) E [v] H := by
  refine ⟨by show 1 ≤ 1000; decide, fun a ha => ⟨a, v, rfl, upd_same, fun dx hdx hne => ⟨rfl, dx, [(f, v)], upd_same, ?_, ?_, ?_⟩⟩⟩
  · rw [upd_ne hne, upd_same]
  · rw [upd_ne hne] at hdx
    exact hdx
  · rw [upd_ne hne] at hdx
    refine q dx _ hdx upd_same fun b o e => ?_
    have hb1 : b ≠ dx := fun z => by rw [z, hdx] at e; cases e
    have hb2 : b ≠ a := fun z => by rw [z, ha] at e; cases e
    rw [upd_ne hb1, del_ne hb2, upd_ne hb2, upd_ne hb1, upd_ne hb2]
    exact e
/-- self.f = e in such an __init__ -/
theorem g_ost1 {a : Addr} {o te : TE} (T : OexC K C) (hf : PySem.W.findIn K (.ref C) f = some none) (h : te σ H fun y H1 => o σ H1 fun x H2 => x = .ref a ∧ H2 a = some (exo a C none) ∧ ∀ dx, H2 dx = none → dx ≠ a → D.nx σ (upd (upd H2 dx (exd dx [(f, y)])) a (exo a C (some dx))))
    (mo : ∀ {Q Q' : VK} {σ : L2.St} {H : Hp}, (∀ v H, Q v H → Q' v H) → o σ H Q → o σ H Q') (me : ∀ {Q Q' : VK} {σ : L2.St} {H : Hp}, (∀ v H, Q v H → Q' v H) → te σ H Q → te σ H Q') : tOst K f o te D σ H :=
  me (fun y H1 h => mo (fun x H2 ⟨e, ha, q⟩ => ⟨a, C, e, T, hf, .inl ⟨ha, q⟩⟩) h) h
end
/-! ### the classes of errors, seen at once -/
def okName : Str := "name"
/-- what the laws ask of the classes: NoProgram with its text, Twice, Hidden, Stranger with a name -/
def errC (K : PySem.W.Frag) (c : Str) : Bool := exkB K (He.ga K c) && (decide (PySem.W.exmOne K (.ref (He.ga K c)) (.ref (He.ga K "LazyError")) = some true) && (decide (PySem.W.kitOne K (.ref (He.ga K c)) (.type "ValueError") = some true) &&
  ((["NoProgram", "Twice", "Hidden", "Stranger", "More", "NoRows", "NoText", "NoRow"] : List Str).all fun t => decide (PySem.W.kitOne K (.ref (He.ga K c)) (.ref (He.ga K t)) = some (decide (c = t))))))
def errI (K : PySem.W.Frag) (c : Str) : Bool := oexB K (He.ga K c) && (eqV (PySem.W.findIn K (.ref (He.ga K c)) "__init__") (some (some (.ref (He.ma K (He.ga K c) "__init__")))) && (decide (PySem.W.typeIn K (.ref (He.ma K (He.ga K c) "__init__")) = some (.type "function")) &&
  eqV (PySem.W.findIn K (.ref (He.ga K c)) "name") (some none)))
def errB (K : PySem.W.Frag) : Bool := (errC K "NoProgram" && (errC K "Twice" && (errC K "Hidden" && errC K "Stranger"))) && (PySem.W.excIn K (He.ga K "NoProgram") He.veBase "ValueError.__new__" && (errI K "Twice" && (errI K "Hidden" && errI K "Stranger")))
def Errs (K : PySem.W.Frag) : Prop := errB K = true
section
variable {K : PySem.W.Frag} {c : Str}
structure ErrC (K : PySem.W.Frag) (c : Str) : Prop where
  x : ExcK K (He.ga K c)
  lz : PySem.W.exmOne K (.ref (He.ga K c)) (.ref (He.ga K "LazyError")) = some true
  ve : PySem.W.kitOne K (.ref (He.ga K c)) (.type "ValueError") = some true
  is : ∀ t ∈ (["NoProgram", "Twice", "Hidden", "Stranger", "More", "NoRows", "NoText", "NoRow"] : List Str), PySem.W.kitOne K (.ref (He.ga K c)) (.ref (He.ga K t)) = some (decide (c = t))
structure ErrI (K : PySem.W.Frag) (c : Str) : Prop where
  o : OexC K (He.ga K c)
  i : PySem.W.findIn K (.ref (He.ga K c)) "__init__" = some (some (.ref (He.ma K (He.ga K c) "__init__")))
  ti : PySem.W.typeIn K (.ref (He.ma K (He.ga K c) "__init__")) = some (.type "function")
  nm : PySem.W.findIn K (.ref (He.ga K c)) "name" = some none
theorem errC_ok (h : errC K c = true) : ErrC K c := by
  unfold errC at h
  rw [Bool.and_eq_true, Bool.and_eq_true, Bool.and_eq_true, decide_eq_true_iff, decide_eq_true_iff, List.all_eq_true] at h
  obtain ⟨h1, h2, h3, h4⟩ := h
  exact ⟨exkB_ok h1, h2, h3, fun t ht => of_decide_eq_true (h4 t ht)⟩
theorem errI_ok (h : errI K c = true) : ErrI K c := by
  unfold errI eqV at h
  rw [Bool.and_eq_true, Bool.and_eq_true, Bool.and_eq_true, decide_eq_true_iff, decide_eq_true_iff, decide_eq_true_iff] at h
  obtain ⟨h1, h2, h3, h4⟩ := h
  exact ⟨oexB_ok h1, h2, h3, h4⟩
structure ErrsS (K : PySem.W.Frag) : Prop where
  p : ErrC K "NoProgram"
  t : ErrC K "Twice"
  h : ErrC K "Hidden"
  s : ErrC K "Stranger"
  q : PySem.W.excIn K (He.ga K "NoProgram") He.veBase "ValueError.__new__" = true
  ti : ErrI K "Twice"
  hi : ErrI K "Hidden"
  si : ErrI K "Stranger"
theorem Errs.s (e : Errs K) : ErrsS K := by
  unfold Errs errB at e
  simp only [Bool.and_eq_true] at e
  obtain ⟨⟨a, b, c, d⟩, f, g, h, i⟩ := e
  exact ⟨errC_ok a, errC_ok b, errC_ok c, errC_ok d, f, errI_ok g, errI_ok h, errI_ok i⟩
theorem Errs.x_NoProgram (e : Errs K) : ExcK K (He.ga K "NoProgram") := e.s.p.x
theorem Errs.q_NoProgram (e : Errs K) : PySem.W.excIn K (He.ga K "NoProgram") He.veBase "ValueError.__new__" = true := e.s.q
theorem Errs.i_Twice (e : Errs K) : PySem.W.findIn K (.ref (He.ga K "Twice")) "__init__" = some (some (.ref (He.ma K (He.ga K "Twice") "__init__"))) := e.s.ti.i
theorem Errs.ti_Twice (e : Errs K) : PySem.W.typeIn K (.ref (He.ma K (He.ga K "Twice") "__init__")) = some (.type "function") := e.s.ti.ti
theorem Errs.o_Twice (e : Errs K) : OexC K (He.ga K "Twice") := e.s.ti.o
theorem Errs.i_Hidden (e : Errs K) : PySem.W.findIn K (.ref (He.ga K "Hidden")) "__init__" = some (some (.ref (He.ma K (He.ga K "Hidden") "__init__"))) := e.s.hi.i
theorem Errs.ti_Hidden (e : Errs K) : PySem.W.typeIn K (.ref (He.ma K (He.ga K "Hidden") "__init__")) = some (.type "function") := e.s.hi.ti
theorem Errs.o_Hidden (e : Errs K) : OexC K (He.ga K "Hidden") := e.s.hi.o
theorem Errs.i_Stranger (e : Errs K) : PySem.W.findIn K (.ref (He.ga K "Stranger")) "__init__" = some (some (.ref (He.ma K (He.ga K "Stranger") "__init__"))) := e.s.si.i
theorem Errs.ti_Stranger (e : Errs K) : PySem.W.typeIn K (.ref (He.ma K (He.ga K "Stranger") "__init__")) = some (.type "function") := e.s.si.ti
theorem Errs.o_Stranger (e : Errs K) : OexC K (He.ga K "Stranger") := e.s.si.o
end
/-! ### list.count of flat values -/
section
variable {X : Cx}
def rCount (K : PySem.W.Frag) : V → List V → Hp → VK → Prop := fun x xs H Q => ∃ (a : Addr) (ys : List V) (y : V), x = V.ref a ∧ xs = [y] ∧ SqL K H a ys ∧ flatV y = true ∧ ys.all flatV = true ∧ Q (.int ((ys.countP fun z => L2.eqV z y : Nat) : Int)) H
theorem countP_eqU {x : V} : ∀ {xs : List V} {us : List Value}, Vals xs us → xs.all flatV = true → us.countP (eqU x) = xs.countP fun y => L2.eqV y x
  | _, _, .nil, _ => rfl
  | y :: xs, u :: us, .cons r t, f => by
    rw [List.all_cons, Bool.and_eq_true] at f
    rw [List.countP_cons, List.countP_cons, countP_eqU t f.2, eqU_of r f.1]
theorem mt_count : MtR X "list.count" (rCount X.K) := by
  intro pins s σ H x xs v us Q I rx rxs h
  obtain ⟨a, ys, y, rfl, rfl, hs, fy, fys, q⟩ := h
  cases rx
  cases rxs with
  | cons ry rt =>
    rename_i uy ut
    cases rt
    obtain ⟨its, rv, ⟨⟨cls, dd, data, sl⟩, n, ho, hc, hdn, hd⟩, hlen⟩ := I.list hs
    simp only at hc hd
    subst hc hd
    refine call_meets PySem.F.slot_list_count ⟨_, ho, rfl⟩ PySem.F.entry_list_count (PySem.F.args_list_count_2 _ _)
      (SeqAt.list_countAt a its.toArray n dd sl uy (eqU y)) ⟨ho, fun u' hu' => mem_eqAt ry fy rv fys u' (by simpa using hu'), ?_⟩
    have ec : its.toArray.toList.countP (eqU y) = ys.countP fun z => L2.eqV z y := countP_eqU rv fys
    refine ⟨.int ((ys.countP fun z => L2.eqV z y : Nat) : Int), H, I.tok _, ⟨s.toks, ?_⟩, q⟩
    show Value.int ((its.toArray.toList.countP (eqU y) : Nat) : Int) s.toks = Value.int _ s.toks
    rw [ec]
end
section
variable {K : PySem.W.Frag} {H : Hp} {Q : VK} {D : Ends} {σ : L2.St} {a C : Addr} {xs : List V} {y : V} {d : Option Addr} {c : V} {cv : Value} {b : Bool} {i : Nat} {tb : WX → TS} {ts : Addr → Value → Option Addr → TS}
theorem g_count (h : SqL K H a xs) (fy : flatV y = true) (fx : xs.all flatV = true) (q : Q (.int ((xs.countP fun z => L2.eqV z y : Nat) : Int)) H) : rCount K (.ref a) [y] H Q := ⟨a, xs, y, rfl, rfl, h, fy, fx, q⟩
theorem g_tryK {cc : Value} (h : tb (wKeep K cc i ts D) D σ H) : tTryK K cc i tb ts D σ H := h
/-- isinstance of a kept error, as a step -/
theorem g_isX (ha : H a = some (hxc a C d)) (hd : ∀ dd, d = some dd → ∃ fs, H dd = some (.xd fs)) (x : ExcK K C) (hc : ∀ u, RelV c u → u = cv) (k : PySem.W.kitOne K (.ref C) cv = some b) (q : Q (.bl b) H) : rIsiX K [.ref a, c] H Q :=
  .inr ⟨a, C, d, c, cv, b, rfl, ha, hd, x, hc, k, q⟩
theorem g_isXR {t : Addr} (ha : H a = some (hxc a C d)) (hd : ∀ dd, d = some dd → ∃ fs, H dd = some (.xd fs)) (x : ExcK K C) (k : PySem.W.kitOne K (.ref C) (.ref t) = some b) (q : Q (.bl b) H) : rIsiX K [.ref a, .ref t] H Q :=
  g_isX ha hd x (fun u r => r) k q
theorem g_isXT {t : String} (ha : H a = some (hxc a C d)) (hd : ∀ dd, d = some dd → ∃ fs, H dd = some (.xd fs)) (x : ExcK K C) (k : PySem.W.kitOne K (.ref C) (.type t) = some b) (q : Q (.bl b) H) : rIsiX K [.ref a, .ty t] H Q :=
  g_isX ha hd x (fun u r => r) k q
end
/-! ### a call of such a def where it lets nothing out -/
def WNo : WX := fun _ _ _ _ => False
def tCallN (sp : Sp) (t : TA) : TE := tCallS sp (WE WNo) t
theorem g_calN {sp : Sp} {t : TA} {σ : L2.St} {H : Hp} {Q : VK} (h : t σ H fun vs H1 => sp vs H1 Q (WE WNo σ)) : tCallN sp t σ H Q := h

/-! A try of several clauses, with names or without; what leaves none of them is never raised. -/
open PySem L2 PyProof.Rows PySem.Spec
abbrev Cl := Value × Option Nat × (Addr → Value → Option Addr → TS)
def wManyN (K : PySem.W.Frag) (D : Ends) : List Cl → WX
  | [] => WNo
  | (c, none, ts) :: r => fun cls d σ H => ∃ b, PySem.W.exmOne K cls c = some b ∧ (b = true → ∀ a, H a = none → ts a cls d D σ H) ∧ (b = false → wManyN K D r cls d σ H)
  | (c, some i, ts) :: r => fun cls d σ H => ∃ b, PySem.W.exmOne K cls c = some b ∧ (b = true → ∀ a, H a = none → ts a cls d { nx := fun σ' H' => D.nx (σ'.set i none) H', rt := fun _ _ => False } (σ.set i (some (.ref a))) H) ∧ (b = false → wManyN K D r cls d σ H)
inductive HdsN (X : Cx) : List ExceptHandler → List Cl → Prop
  | nil : HdsN X [] []
  | plain {x : Str} {c : Value} {ts : Addr → Value → Option Addr → TS} {b₀ : Stmt} {suite : List Stmt} {np pos' : Pos} {hds : List ExceptHandler} {l : List Cl} (hc : Names X x c)
      (hsu : ∀ (a : Addr) (oe : Obj) (cls : Value) (d : Option Addr) (pn : List (Addr × Obj)), Zc cls d oe → (∃ vs, oe.data = .fields vs) → PSs (X.suite a ((a, oe) :: pn)) (b₀ :: suite) (ts a cls d)) (r : HdsN X hds l) :
      HdsN X (.ExceptHandler (some (.Name x np)) none (b₀ :: suite) pos' :: hds) ((c, none, ts) :: l)
  | named {x n : Str} {i : Nat} {c : Value} {ts : Addr → Value → Option Addr → TS} {b₀ : Stmt} {suite : List Stmt} {np pos' : Pos} {hds : List ExceptHandler} {l : List Cl} (hc : Names X x c) (hi : X.N[i]? = some n) (hln : X.env.kindOf n = some .local)
      (hsu : ∀ (a : Addr) (oe : Obj) (cls : Value) (d : Option Addr) (pn : List (Addr × Obj)), Zc cls d oe → (∃ vs, oe.data = .fields vs) → PSs (X.suite a ((a, oe) :: pn)) (b₀ :: suite) (ts a cls d)) (r : HdsN X hds l) :
      HdsN X (.ExceptHandler (some (.Name x np)) (some n) (b₀ :: suite) pos' :: hds) ((c, some i, ts) :: l)
section
variable {X : Cx} {body : List Stmt} {h₀ : ExceptHandler} {hds : List ExceptHandler} {l : List Cl} {pos : Pos} {tb : WX → TS}
theorem ps_try_manyN (hs : X.stack = X.env :: X.outer) (hf : X.env.frame = some X.env.locals) (hN : X.N.Nodup)
    (hb : ∀ (W : WX) (pn : List (Addr × Obj)) (xe : Value → Shared → Prop), Takes (X.tr pn xe) W → PassesOwn (model X.prog X.w) X.A X.env xe → PSs (X.tr pn xe) body (tb W))
    (hh : HdsN X (h₀ :: hds) l) : PS X (.Try body (h₀ :: hds) [] [] pos) (fun D σ H => tb (wManyN X.K D l) D σ H) := by
  refine ⟨fun pins s σ H D I h => ?_⟩
  have ok := I.ok
  have hfr : X.A.frames = some (X.env :: X.outer) := by rw [ok.frames, hs]
  refine wpAny_Try_except ?_
  refine wpAny_mono ((hb (wManyN X.K D l) (X.pn ++ pins) (fun e s₁ => wpAny (model X.prog X.w) X.A (noteFrame e X.env) (fun _ s₂ => wpAny (model X.prog X.w) X.A (setFlight e none) (fun _ s₃ =>
    wpAny (model X.prog X.w) X.A (handleBy e X.env (h₀ :: hds)) (SP X pins D) X.xe s₃) X.xe s₂) X.xe s₁) (fun u s' xx => ?_) PassesOwn.looking).run [] s σ H D (I.toTry _) h) (fun f s1 hsp => ?_) (fun e s1 he => he)
  · obtain ⟨a, B, sI, pins', σ', H', cls, d, rfl, J', nb, up, sky, na, os, ag, w⟩ := xx
    have J : Inv X pins σ' H' sI := J'.ofTry ok
    have sky' : Sky B (X.env :: X.outer) a (Zc cls d) X.env.locals s'.heap := by rw [← hs]; exact sky
    show wpAny (model X.prog X.w) X.A (noteFrame (.ref a) X.env) _ _ _
    refine Sky.land Zc.steady hfr hf sky' fun h3 fl3 up3 => ?_
    have J3 : Inv X pins σ' H' { s' with heap := h3 } := J.landed nb fl3.1 (up.trans up3) os ag
    obtain ⟨oe3, vs3, he3, hz3, hd3⟩ := fl3.there
    have notFr : ∀ {h : Heap} {o : Obj} {vs : Array Value}, h.FunFrames B (X.env :: X.outer) → h.get? a = some o → o.data = .fields vs → a ∉ frs (X.env :: X.outer) := fun {h o vs} ff e dd hm => by
      obtain ⟨_, o', e', hnf⟩ := ff.mem hm
      rw [e] at e'; cases e'
      exact hnf _ dd
    have nfr := notFr fl3.2.2.1 he3 hd3
    have nL : a ≠ X.env.locals := fun z => nfr (List.mem_filterMap.mpr ⟨X.env, List.mem_cons_self, by rw [hf, z]⟩)
    have nF : a ∉ X.fs := fun hm => by
      obtain ⟨e, he, q⟩ := List.mem_filterMap.mp hm
      exact nfr (List.mem_filterMap.mpr ⟨e, List.mem_cons_of_mem _ he, q⟩)
    have S3 := J3.suite he3 hd3 na nL nF
    have go : ∀ {hds' : List ExceptHandler} {l' : List Cl}, HdsN X hds' l' → wManyN X.K D l' cls d σ' H' →
        wpAny (model X.prog X.w) X.A (handleBy (.ref a) X.env hds') (SP X pins D) X.xe { s' with heap := h3 } := by
      intro hds' l' hk
      induction hk with
      | nil =>
        intro w
        exact (show False from w).elim
      | @plain x c ts b₀ suite np pos' hds2 l2 hc hsu r ih =>
        intro w
        obtain ⟨b, hb1, hyes, hno⟩ := w
        refine wpAny_handleBy_cons (codeAny_handlers_test ?_) (by intro q; cases q)
        have LT : PySem.W.Looks (model X.prog X.w) h3 (typeOf (.ref a)) cls := fun A Q E s k q => wpAny_typeOf_ref (k _ _ he3) (by rw [hz3.1]; exact q)
        have LM := PySem.W.exm_one (M := model X.prog X.w) (J3.kIn) LT hb1
        have test : ∀ {Q : Value → Shared → Prop} {E : Value → Shared → Prop}, Q c { s' with heap := h3 } → wpAny (model X.prog X.w) (X.A.mark (some (.ref a))) (eval (.Name x np) X.env) Q E { s' with heap := h3 } := fun {Q E} q => by
          obtain ⟨hg, hdbg, hm | ⟨hm, hv, hnn⟩⟩ := hc
          · exact ld_glob (X := X.suite a ((a, oe3) :: (X.pn ++ pins))) S3 hg hm q hdbg
          · exact ld_blt (X := X.suite a ((a, oe3) :: (X.pn ++ pins))) S3 hg hm hv q hnn hdbg
        refine test (LM.here ?_)
        cases b with
        | true =>
          refine codeAny_handlers_suite ?_
          refine HandSPX.lands_againZ fl3 fun h4 fl4 up4 => ?_
          have J4 : Inv X pins σ' H' { s' with heap := h4 } := J.landed nb fl4.1 ((up.trans up3).trans up4) os ag
          obtain ⟨oe4, vs4, he4, hz4, hd4⟩ := fl4.there
          have S4 := J4.suite he4 hd4 na nL nF
          refine wpAny_mono ((hsu a oe4 cls d (X.pn ++ pins) hz4 ⟨_, hd4⟩).run [] _ _ H' _ S4 (hyes rfl a na)) (fun f s6 hsp => ?_) (fun _ _ z => False.elim z)
          cases f with
          | next =>
            obtain ⟨σ6, H6, S6, q6⟩ := hsp
            exact ⟨_, _, S6.unsuite ok, q6⟩
          | brk =>
            obtain ⟨σ6, H6, S6, q6⟩ := hsp
            exact ⟨_, _, S6.unsuite ok, q6⟩
          | cont =>
            obtain ⟨σ6, H6, S6, q6⟩ := hsp
            exact ⟨_, _, S6.unsuite ok, q6⟩
          | ret u =>
            obtain ⟨v6, σ6, H6, S6, r6, q6⟩ := hsp
            exact ⟨_, _, _, S6.unsuite ok, r6, q6⟩
        | false =>
          show wpAny _ X.A (handleBy (.ref a) X.env hds2) _ _ _
          exact ih (hno rfl)
      | @named x n i c ts b₀ suite np pos' hds2 l2 hc hi hln hsu r ih =>
        intro w
        obtain ⟨b, hb1, hyes, hno⟩ := w
        refine wpAny_handleBy_cons (codeAny_handlers_test ?_) (by intro q; cases q)
        have LT : PySem.W.Looks (model X.prog X.w) h3 (typeOf (.ref a)) cls := fun A Q E s k q => wpAny_typeOf_ref (k _ _ he3) (by rw [hz3.1]; exact q)
        have LM := PySem.W.exm_one (M := model X.prog X.w) (J3.kIn) LT hb1
        have test : ∀ {Q : Value → Shared → Prop} {E : Value → Shared → Prop}, Q c { s' with heap := h3 } → wpAny (model X.prog X.w) (X.A.mark (some (.ref a))) (eval (.Name x np) X.env) Q E { s' with heap := h3 } := fun {Q E} q => by
          obtain ⟨hg, hdbg, hm | ⟨hm, hv, hnn⟩⟩ := hc
          · exact ld_glob (X := X.suite a ((a, oe3) :: (X.pn ++ pins))) S3 hg hm q hdbg
          · exact ld_blt (X := X.suite a ((a, oe3) :: (X.pn ++ pins))) S3 hg hm hv q hnn hdbg
        refine test (LM.here ?_)
        cases b with
        | true =>
          refine codeAny_handlers_suite_as ?_
          refine HandSPX.lands_againZ fl3 fun h4 fl4 up4 => ?_
          have J4 : Inv X pins σ' H' { s' with heap := h4 } := J.landed nb fl4.1 ((up.trans up3).trans up4) os ag
          obtain ⟨oe4, vs4, he4, hz4, hd4⟩ := fl4.there
          have S4 := J4.suite he4 hd4 na nL nF
          refine store_ok (X := X.suite a ((a, oe4) :: (X.pn ++ pins))) (v := .ref a) S4 hN hi (.inl hln) rfl (fun s5 S5 => ?_) (.inr hln)
          refine wpAny_mono ((hsu a oe4 cls d (X.pn ++ pins) hz4 ⟨_, hd4⟩).run [] s5 _ H' _ S5 (hyes rfl a na)) (fun f s6 hsp => ?_) (fun _ _ z => False.elim z)
          cases f with
          | next =>
            obtain ⟨σ6, H6, S6, q6⟩ := hsp
            exact gone_ok (S6.unsuite ok) hN hi hln fun s7 S7 => ⟨_, _, S7, q6⟩
          | brk => obtain ⟨_, _, _, q6⟩ := hsp; exact False.elim q6
          | cont => obtain ⟨_, _, _, q6⟩ := hsp; exact False.elim q6
          | ret u => obtain ⟨_, _, _, _, _, q6⟩ := hsp; exact False.elim q6
        | false =>
          show wpAny _ X.A (handleBy (.ref a) X.env hds2) _ _ _
          exact ih (hno rfl)
    exact go hh w
  · cases f with
    | next =>
      obtain ⟨σ', H', J', q⟩ := hsp
      exact wpAny_execs_nil ⟨σ', H', J'.ofTry ok, q⟩
    | brk =>
      obtain ⟨σ', H', J', q⟩ := hsp
      exact ⟨σ', H', J'.ofTry ok, q⟩
    | cont =>
      obtain ⟨σ', H', J', q⟩ := hsp
      exact ⟨σ', H', J'.ofTry ok, q⟩
    | ret u =>
      obtain ⟨v, σ', H', J', r, q⟩ := hsp
      exact ⟨v, σ', H', J'.ofTry ok, r, q⟩
end
def tTryM (K : PySem.W.Frag) (l : List Cl) (tb : WX → TS) : TS := fun D σ H => tb (wManyN K D l) D σ H
theorem g_tryM {K : PySem.W.Frag} {l : List Cl} {tb : WX → TS} {D : Ends} {σ : L2.St} {H : Hp} (h : tb (wManyN K D l) D σ H) : tTryM K l tb D σ H := h
theorem ExcK.xf {K : PySem.W.Frag} {C : Addr} (h : ExcK K C) : XfC K C := ⟨h.ga, h.gg, h.ex, h.hd⟩
theorem Errs.xf_Hidden {K : PySem.W.Frag} (e : Errs K) : XfC K (He.ga K "Hidden") := e.s.h.x.xf
theorem Errs.xf_Stranger {K : PySem.W.Frag} (e : Errs K) : XfC K (He.ga K "Stranger") := e.s.s.x.xf
theorem Errs.nm_Hidden {K : PySem.W.Frag} (e : Errs K) : PySem.W.findIn K (.ref (He.ga K "Hidden")) "name" = some none := e.s.hi.nm
theorem Errs.nm_Stranger {K : PySem.W.Frag} (e : Errs K) : PySem.W.findIn K (.ref (He.ga K "Stranger")) "name" = some none := e.s.si.nm
/-- which clause is whose -/
def errM (K : PySem.W.Frag) : Bool := decide (PySem.W.exmOne K (.ref (He.ga K "Hidden")) (.ref (He.ga K "Hidden")) = some true) && (decide (PySem.W.exmOne K (.ref (He.ga K "Stranger")) (.ref (He.ga K "Hidden")) = some false) && decide (PySem.W.exmOne K (.ref (He.ga K "Stranger")) (.ref (He.ga K "Stranger")) = some true))
structure ErrM (K : PySem.W.Frag) : Prop where
  hh : PySem.W.exmOne K (.ref (He.ga K "Hidden")) (.ref (He.ga K "Hidden")) = some true
  sh : PySem.W.exmOne K (.ref (He.ga K "Stranger")) (.ref (He.ga K "Hidden")) = some false
  ss : PySem.W.exmOne K (.ref (He.ga K "Stranger")) (.ref (He.ga K "Stranger")) = some true
theorem errM_ok {K : PySem.W.Frag} (h : errM K = true) : ErrM K := by
  unfold errM at h
  simp only [Bool.and_eq_true, decide_eq_true_iff] at h
  exact ⟨h.1, h.2.1, h.2.2⟩

local macro_rules | `(tactic| walk_at "g1") => `(tactic| first
  | with_reducible refine g_seq ?_ | with_reducible refine g_asg ?_ | with_reducible refine g_op ?_ | with_reducible refine g_ixop ?_ | ((with_reducible refine g_ixL (xs := ?gx) (v := ?gv) (SqL.of ?gh) ?ge ?_); (case gh => assumption); (case ge => exact rfl)) | with_reducible refine g_c ?_
  | ((with_reducible refine g_var (v := ?gv) ?gh ?_); (case gh => exact rfl))
  | ((with_reducible refine g_name (σ' := ?gs) ?gh ?_); (case gh => (dsimp only [List.set]; exact rfl)))
  | with_reducible refine g_cons ?_ | with_reducible refine g_nil ?_ | with_reducible refine g_ifs ?_ | with_reducible refine g_test ?_ | with_reducible refine g_bl ?_ | with_reducible refine g_cb ?_
  | with_reducible refine g_addI ?_ | with_reducible refine g_subI ?_ | with_reducible refine g_eqI ?_ | with_reducible refine g_eqS ?_ | with_reducible refine g_neI ?_ | with_reducible refine g_neS ?_
  | with_reducible refine g_ltI ?_ | with_reducible refine g_leI ?_ | with_reducible refine g_gtI ?_ | with_reducible refine g_geI ?_
  | with_reducible refine g_ret ?_ | with_reducible refine g_next ?_ | with_reducible refine g_call ?_ | with_reducible refine g_drop ?_ | with_reducible refine g_sub ?_
  | with_reducible refine g_and ?_ | with_reducible refine g_or ?_ | with_reducible refine g_not ?_ | with_reducible refine g_tru ?_ | with_reducible refine g_trubl ?_ | with_reducible refine g_truint ?_ | with_reducible refine g_ifx ?_
  | with_reducible refine g_abs ?_ | with_reducible refine g_max2 ?_ | with_reducible refine g_min2 ?_ | with_reducible refine g_intI ?_ | with_reducible refine g_intB ?_
  | with_reducible refine g_tup ?_ | with_reducible refine g_lst ?_ | ((with_reducible refine g_len ?gl ?_); (case gl => (show _ ≤ 16777216; simp only [List.length_cons, List.length_nil]; omega))) | with_reducible refine g_dnew ?_
  | with_reducible refine g_bm ?_ | with_reducible refine g_bm0 ?_ | with_reducible refine g_m1 ?_ | with_reducible refine g_isstr ?_ | with_reducible refine g_sl ?_ | with_reducible refine g_nopart ?_ | with_reducible refine g_part ?_ | with_reducible refine g_ispart ?_
  | with_reducible refine g_un ?_ | with_reducible refine g_neg ?_ | with_reducible refine g_andT ?_ | with_reducible refine g_orT ?_ | with_reducible refine g_notT ?_ | with_reducible refine g_rev ?_ | with_reducible refine g_par ?_ | with_reducible refine g_lc ?_ | with_reducible refine g_for ?_ | with_reducible refine g_rng1 ?_ | with_reducible refine g_yes ?_ | with_reducible refine g_isS ?_ | with_reducible refine g_disp ?_ | with_reducible refine g_pcons ?_ | with_reducible refine g_pnil ?_ | with_reducible refine g_get2 ?_)
local macro_rules | `(tactic| walk_at "go") => `(tactic| repeat walk_at "g1")

/-! ### the readings of the defs -/
def t_Twice___init__ (K : PySem.W.Frag) (w : World) : TS :=
  (tOst K "name" (tVar 0) (tVar 1))
def t_Hidden___init__ (K : PySem.W.Frag) (w : World) : TS :=
  (tOst K "name" (tVar 0) (tVar 1))
def t_Stranger___init__ (K : PySem.W.Frag) (w : World) : TS :=
  (tOst K "name" (tVar 0) (tVar 1))
def t_is_name (K : PySem.W.Frag) (w : World) : TS :=
  (tSeq (tIfS (tOr (tNot (tTru K (tCB (rIsiG K) (tCons (tVar 0) (tCons (tC (.ty "str")) tNil))))) (tNot (tTest (tChain rLeG rLeG (tC (.int 1)) (tCB (rLenG K) (tCons (tVar 0) tNil)) (tC (.int 8)))))) (tRet (tC (.bl false))) tNext)
  (tRet (tCB (rAll K) (tCons (tLc (iSeq K (tVar 0)) (gName 1) tYes (tOp (rInG K w false) (tVar 1) (tC (.str "abcdefghijklmnopqrstuvwxyz"))) [1]) tNil))))
def t_is_whole (K : PySem.W.Frag) (w : World) : TS :=
  (tRet (tAndT K (tCB (rIsiG K) (tCons (tVar 0) (tCons (tC (.ty "int")) tNil))) (tNotT K (tCB (rIsiG K) (tCons (tVar 0) (tCons (tC (.ty "bool")) tNil))))))
def t_is_small (K : PySem.W.Frag) (w : World) : TS :=
  (tRet (tOp rLtG (tCB rAbsG (tCons (tVar 0) tNil)) (tOp rPowG (tC (.int 10)) (tC (.int 60)))))
def t_within (K : PySem.W.Frag) (w : World) : TS :=
  (tSeq (tIfS (tTest (tOp (rInG K w false) (tIxG K w (tVar 0) (tC (.int 0))) (tC (.ref (He.ga K "PARTS"))))) (tRet (tCB (rListG K) (tCons (tSl (rSlG K) (tVar 0) (tPart (tC (.int 1))) tNoPart) tNil))) tNext)
  (tSeq (tIfS (tTest (tOp (rEqG K) (tIxG K w (tVar 0) (tC (.int 0))) (tC (.str "let")))) (tRet (tOp (rAddG K) (tLc (iSeq K (tIxG K w (tVar 0) (tC (.int 1)))) (gTup K 2 (gCons (gName 1) (gCons (gName 2) gNil))) tYes (tVar 2) [1, 2]) (tLstN (tCons (tIxG K w (tVar 0) (tC (.int 2))) tNil)))) tNext)
  (tRet (tLstN tNil))))
def t_in_order (K : PySem.W.Frag) (w : World) (s_within : Sp) : TS :=
  (tSeq (tAsg (tLstN tNil) (gName 1))
  (tSeq (tAsg (tLstN (tCons (tVar 0) tNil)) (gName 2))
  (tSeq (tWhile (tTest (tOp (rNeG K) (tVar 2) (tLstN tNil))) (tSeq (tAsg (tBM0 K "list" rPopG (tVar 2)) (gName 3))
  (tSeq (tDrop (tBM K "list" rAppendG (tVar 1) (tCons (tVar 3) tNil)))
  (tDrop (tBM K "list" rExtendG (tVar 2) (tCons (tRevG K (tCall s_within [] E0 (tCons (tVar 3) tNil))) tNil))))))
  (tRet (tVar 1)))))
def t_is_row (K : PySem.W.Frag) (w : World) (s_is_name : Sp) : TS :=
  (tRet (tAndT K (tCB (rIsiG K) (tCons (tVar 0) (tCons (tC (.ty "tuple")) tNil))) (tAndT K (tOp (rEqG K) (tCB (rLenG K) (tCons (tVar 0) tNil)) (tC (.int 2))) (tCall s_is_name [] E0 (tCons (tIxG K w (tVar 0) (tC (.int 0))) tNil)))))
def t_are_rows (K : PySem.W.Frag) (w : World) (s_is_row : Sp) : TS :=
  (tRet (tAndT K (tCB (rIsiG K) (tCons (tVar 0) (tCons (tC (.ty "tuple")) tNil))) (tAndT K (tChain rLeG rLeG (tC (.int 1)) (tCB (rLenG K) (tCons (tVar 0) tNil)) (tC (.int 4))) (tCB (rAll K) (tCons (tLc (iSeq K (tVar 0)) (gName 1) tYes (tCall s_is_row [] E0 (tCons (tVar 1) tNil)) [1]) tNil)))))
def t_parts_of (K : PySem.W.Frag) (w : World) (s_is_whole : Sp) (s_is_small : Sp) (s_is_name : Sp) (s_are_rows : Sp) : TS :=
  (tSeq (tIfS (tOr (tNot (tTru K (tCB (rIsiG K) (tCons (tVar 0) (tCons (tC (.ty "tuple")) tNil))))) (tOr (tTest (tOp rLtG (tCB (rLenG K) (tCons (tVar 0) tNil)) (tC (.int 2)))) (tNot (tTru K (tCB (rIsiG K) (tCons (tIxG K w (tVar 0) (tC (.int 0))) (tCons (tC (.ty "str")) tNil))))))) (tRet (tC .non)) tNext)
  (tSeq (tIfS (tAnd (tTest (tOp (rEqG K) (tIxG K w (tVar 0) (tC (.int 0))) (tC (.str "number")))) (tAnd (tTest (tOp (rEqG K) (tCB (rLenG K) (tCons (tVar 0) tNil)) (tC (.int 2)))) (tAnd (tTru K (tCall s_is_whole [] E0 (tCons (tIxG K w (tVar 0) (tC (.int 1))) tNil))) (tTru K (tCall s_is_small [] E0 (tCons (tIxG K w (tVar 0) (tC (.int 1))) tNil)))))) (tRet (tLstN tNil)) tNext)
  (tSeq (tIfS (tAnd (tTest (tOp (rInG K w false) (tIxG K w (tVar 0) (tC (.int 0))) (tTupN (tCons (tC (.str "name")) (tCons (tC (.str "fun")) tNil))))) (tAnd (tTest (tOp (rEqG K) (tCB (rLenG K) (tCons (tVar 0) tNil)) (tC (.int 2)))) (tTru K (tCall s_is_name [] E0 (tCons (tIxG K w (tVar 0) (tC (.int 1))) tNil))))) (tRet (tLstN tNil)) tNext)
  (tSeq (tIfS (tAnd (tTest (tOp (rInG K w false) (tIxG K w (tVar 0) (tC (.int 0))) (tC (.ref (He.ga K "PARTS"))))) (tTest (tOp (rEqG K) (tCB (rLenG K) (tCons (tVar 0) tNil)) (tOp (rAddG K) (tIxG K w (tC (.ref (He.ga K "PARTS"))) (tIxG K w (tVar 0) (tC (.int 0)))) (tC (.int 1)))))) (tRet (tCB (rListG K) (tCons (tSl (rSlG K) (tVar 0) (tPart (tC (.int 1))) tNoPart) tNil))) tNext)
  (tSeq (tIfS (tAnd (tTest (tOp (rEqG K) (tIxG K w (tVar 0) (tC (.int 0))) (tC (.str "let")))) (tAnd (tTest (tOp (rEqG K) (tCB (rLenG K) (tCons (tVar 0) tNil)) (tC (.int 3)))) (tTru K (tCall s_are_rows [] E0 (tCons (tIxG K w (tVar 0) (tC (.int 1))) tNil))))) (tRet (tOp (rAddG K) (tLc (iSeq K (tIxG K w (tVar 0) (tC (.int 1)))) (gName 1) tYes (tIxG K w (tVar 1) (tC (.int 1))) [1]) (tLstN (tCons (tIxG K w (tVar 0) (tC (.int 2))) tNil)))) tNext)
  (tRet (tC .non)))))))
def t_is_body (K : PySem.W.Frag) (w : World) (s_parts_of : Sp) : TS :=
  (tSeq (tAsg (tC (.int 0)) (gName 1))
  (tSeq (tAsg (tLstN (tCons (tTupN (tCons (tVar 0) (tCons (tC (.int 1)) tNil))) tNil)) (gName 2))
  (tSeq (tWhile (tTest (tOp (rNeG K) (tVar 2) (tLstN tNil))) (tSeq (tAsg (tBM0 K "list" rPopG (tVar 2)) (gTup K 2 (gCons (gName 3) (gCons (gName 4) gNil))))
  (tSeq (tAsg (tCall s_parts_of [] E0 (tCons (tVar 3) tNil)) (gName 5))
  (tSeq (tAsg (tOp (rAddG K) (tVar 1) (tC (.int 1))) (gName 1))
  (tSeq (tIfS (tOr (tTest (tOp (rIsG false) (tVar 5) (tC .non))) (tOr (tTest (tOp rGtG (tVar 4) (tC (.int 12)))) (tTest (tOp rGtG (tVar 1) (tC (.int 60)))))) (tRet (tC (.bl false))) tNext)
  (tDrop (tBM K "list" rExtendG (tVar 2) (tCons (tLc (iSeq K (tVar 5)) (gName 6) tYes (tTupN (tCons (tVar 6) (tCons (tOp (rAddG K) (tVar 4) (tC (.int 1))) tNil))) [6]) tNil))))))))
  (tRet (tC (.bl true))))))
def t_is_function (K : PySem.W.Frag) (w : World) (s_is_name : Sp) (s_is_body : Sp) : TS :=
  (tSeq (tIfS (tOr (tNot (tTru K (tCB (rIsiG K) (tCons (tVar 0) (tCons (tC (.ty "tuple")) tNil))))) (tOr (tTest (tOp (rNeG K) (tCB (rLenG K) (tCons (tVar 0) tNil)) (tC (.int 3)))) (tOr (tNot (tTru K (tCall s_is_name [] E0 (tCons (tIxG K w (tVar 0) (tC (.int 0))) tNil)))) (tNot (tTru K (tCB (rIsiG K) (tCons (tIxG K w (tVar 0) (tC (.int 1))) (tCons (tC (.ty "tuple")) tNil)))))))) (tRet (tC (.bl false))) tNext)
  (tRet (tAndT K (tOp rLeG (tCB (rLenG K) (tCons (tIxG K w (tVar 0) (tC (.int 1))) tNil)) (tC (.int 4))) (tAndT K (tCB (rAll K) (tCons (tLc (iSeq K (tIxG K w (tVar 0) (tC (.int 1)))) (gName 1) tYes (tCall s_is_name [] E0 (tCons (tVar 1) tNil)) [1]) tNil)) (tCall s_is_body [] E0 (tCons (tIxG K w (tVar 0) (tC (.int 2))) tNil))))))
def t_is_built (K : PySem.W.Frag) (w : World) (s_is_function : Sp) (s_is_body : Sp) : TS :=
  (tSeq (tIfS (tOr (tNot (tTru K (tCB (rIsiG K) (tCons (tVar 0) (tCons (tC (.ty "tuple")) tNil))))) (tOr (tTest (tOp (rNeG K) (tCB (rLenG K) (tCons (tVar 0) tNil)) (tC (.int 2)))) (tNot (tTru K (tCB (rIsiG K) (tCons (tIxG K w (tVar 0) (tC (.int 0))) (tCons (tC (.ty "tuple")) tNil))))))) (tRet (tC (.bl false))) tNext)
  (tRet (tAndT K (tOp rLeG (tCB (rLenG K) (tCons (tIxG K w (tVar 0) (tC (.int 0))) tNil)) (tC (.int 8))) (tAndT K (tCB (rAll K) (tCons (tLc (iSeq K (tIxG K w (tVar 0) (tC (.int 0)))) (gName 1) tYes (tCall s_is_function [] E0 (tCons (tVar 1) tNil)) [1]) tNil)) (tCall s_is_body [] E0 (tCons (tIxG K w (tVar 0) (tC (.int 1))) tNil))))))
def t_row_names (K : PySem.W.Frag) (w : World) (s_in_order : Sp) : TS :=
  (tSeq (tAsg (tLstN tNil) (gName 1))
  (tSeq (tFor (iSeq K (tCall s_in_order [] E0 (tCons (tVar 0) tNil))) (gName 2) (tIfS (tTest (tOp (rEqG K) (tIxG K w (tVar 2) (tC (.int 0))) (tC (.str "let")))) (tDrop (tBM K "list" rExtendG (tVar 1) (tCons (tLc (iSeq K (tIxG K w (tVar 2) (tC (.int 1)))) (gTup K 2 (gCons (gName 3) (gCons (gName 4) gNil))) tYes (tVar 3) [3, 4]) tNil))) tNext))
  (tRet (tVar 1))))
def tx_look_unlike (K : PySem.W.Frag) (w : World) (s_Hidden___init__ : Sp) (E : XK) : TS :=
  (tFor (iRng1 (tCons (tCB (rLenG K) (tCons (tVar 0) tNil)) tNil)) (gName 1) (tIfS (tTest (tOp (rInG K w false) (tIxG K w (tVar 0) (tVar 1)) (tSl (rSlG K) (tVar 0) tNoPart (tPart (tVar 1))))) (tRaiseI (He.ga K "Hidden") s_Hidden___init__ E (tCons (tIxG K w (tVar 0) (tVar 1)) tNil)) tNext))
def tx_look_named (K : PySem.W.Frag) (w : World) (s_Stranger___init__ : Sp) (s_look_named : Sp) (E : XK) : TS :=
  (tSeq (tIfS (tOr (tAnd (tTest (tOp (rEqG K) (tIxG K w (tVar 0) (tC (.int 0))) (tC (.str "name")))) (tTest (tOp (rInG K w true) (tIxG K w (tVar 0) (tC (.int 1))) (tVar 1)))) (tAnd (tTest (tOp (rEqG K) (tIxG K w (tVar 0) (tC (.int 0))) (tC (.str "fun")))) (tTest (tOp (rInG K w true) (tIxG K w (tVar 0) (tC (.int 1))) (tVar 2))))) (tRaiseI (He.ga K "Stranger") s_Stranger___init__ E (tCons (tIxG K w (tVar 0) (tC (.int 1))) tNil)) tNext)
  (tIfS (tTest (tOp (rEqG K) (tIxG K w (tVar 0) (tC (.int 0))) (tC (.str "let")))) (tSeq (tAsg (tOp (rAddG K) (tVar 1) (tLc (iSeq K (tIxG K w (tVar 0) (tC (.int 1)))) (gTup K 2 (gCons (gName 4) (gCons (gName 5) gNil))) tYes (tVar 4) [4, 5])) (gName 3))
  (tSeq (tFor (iSeq K (tIxG K w (tVar 0) (tC (.int 1)))) (gTup K 2 (gCons (gName 4) (gCons (gName 5) gNil))) (tDrop (tCallE s_look_named E (tCons (tVar 5) (tCons (tVar 3) (tCons (tVar 2) tNil))))))
  (tDrop (tCallE s_look_named E (tCons (tIxG K w (tVar 0) (tC (.int 2))) (tCons (tVar 3) (tCons (tVar 2) tNil))))))) (tIfS (tTest (tOp (rInG K w false) (tIxG K w (tVar 0) (tC (.int 0))) (tC (.ref (He.ga K "PARTS"))))) (tFor (iSeq K (tSl (rSlG K) (tVar 0) (tPart (tC (.int 1))) tNoPart)) (gName 5) (tDrop (tCallE s_look_named E (tCons (tVar 5) (tCons (tVar 1) (tCons (tVar 2) tNil)))))) tNext)))
def tx_looked (K : PySem.W.Frag) (w : World) (s_is_built : Sp) (s_Twice___init__ : Sp) (s_look_unlike : Sp) (s_row_names : Sp) (s_look_named : Sp) (E : XK) : TS :=
  (tSeq (tIfS (tNot (tTru K (tCall s_is_built [] E0 (tCons (tVar 0) tNil)))) (tRaiseO (He.ga K "NoProgram") E) tNext)
  (tSeq (tAsg (tLc (iSeq K (tIxG K w (tVar 0) (tC (.int 0)))) (gTup K 3 (gCons (gName 2) (gCons (gName 3) (gCons (gName 4) gNil)))) tYes (tVar 2) [2, 3, 4]) (gName 1))
  (tSeq (tFor (iRng1 (tCons (tCB (rLenG K) (tCons (tVar 1) tNil)) tNil)) (gName 5) (tIfS (tTest (tOp (rInG K w false) (tIxG K w (tVar 1) (tVar 5)) (tSl (rSlG K) (tVar 1) tNoPart (tPart (tVar 5))))) (tRaiseI (He.ga K "Twice") s_Twice___init__ E (tCons (tIxG K w (tVar 1) (tVar 5)) tNil)) tNext))
  (tSeq (tFor (iSeq K (tOp (rAddG K) (tLc (iSeq K (tIxG K w (tVar 0) (tC (.int 0)))) (gTup K 3 (gCons (gName 2) (gCons (gName 3) (gCons (gName 4) gNil)))) tYes (tTupN (tCons (tVar 3) (tCons (tVar 4) tNil))) [2, 3, 4]) (tLstN (tCons (tTupN (tCons (tTupN tNil) (tCons (tIxG K w (tVar 0) (tC (.int 1))) tNil))) tNil)))) (gTup K 2 (gCons (gName 3) (gCons (gName 4) gNil))) (tSeq (tDrop (tCallE s_look_unlike E (tCons (tOp (rAddG K) (tCB (rListG K) (tCons (tVar 3) tNil)) (tCall s_row_names [] E0 (tCons (tVar 4) tNil))) tNil)))
  (tDrop (tCallE s_look_named E (tCons (tVar 4) (tCons (tCB (rListG K) (tCons (tVar 3) tNil)) (tCons (tVar 1) tNil)))))))
  (tRet (tVar 0))))))
def t_is_figures (K : PySem.W.Frag) (w : World) : TS :=
  (tSeq (tAsg (tIf (tTest (tOp (rEqG K) (tSl (rSlG K) (tVar 0) tNoPart (tPart (tC (.int 1)))) (tC (.str "-")))) (tSl (rSlG K) (tVar 0) (tPart (tC (.int 1))) tNoPart) (tVar 0)) (gName 1))
  (tSeq (tIfS (tOr (tNot (tTest (tChain rLeG rLeG (tC (.int 1)) (tCB (rLenG K) (tCons (tVar 1) tNil)) (tC (.int 60))))) (tNot (tTru K (tCB (rAll K) (tCons (tLc (iSeq K (tVar 1)) (gName 2) tYes (tOp (rInG K w false) (tVar 2) (tC (.str "0123456789"))) [2]) tNil))))) (tRet (tC (.bl false))) tNext)
  (tRet (tOrT K (tOp (rEqG K) (tVar 0) (tC (.str "0"))) (tOp (rNeG K) (tIxG K w (tVar 1) (tC (.int 0))) (tC (.str "0")))))))
def t_is_marked (K : PySem.W.Frag) (w : World) (s_is_name : Sp) : TS :=
  (tRet (tAndT K (tOp (rEqG K) (tSl (rSlG K) (tVar 0) tNoPart (tPart (tC (.int 1)))) (tVar 1)) (tCall s_is_name [] E0 (tCons (tSl (rSlG K) (tVar 0) (tPart (tC (.int 1))) tNoPart) tNil))))
def t_PartReader___init__ (K : PySem.W.Frag) (w : World) : TS :=
  (tSeq (sFld K (tVar 0) (tVar 1) "row")
  (tSeq (sFld K (tVar 0) (tVar 2) "words")
  (tSeq (sFld K (tVar 0) (tVar 3) "at")
  (sFld K (tVar 0) (tC (.int 60)) "left"))))
def t_PartReader_refuse (K : PySem.W.Frag) (w : World) : TS :=
  tNever
def t_PartReader_now (K : PySem.W.Frag) (w : World) (s_PartReader_refuse : Sp) : TS :=
  (tSeq (tIfS (tTest (tOp (rEqG K) (tFld K (tVar 0) "at") (tCB (rLenG K) (tCons (tFld K (tVar 0) "words") tNil)))) (tDrop (tMeth (He.ga K "PartReader") "refuse" s_PartReader_refuse [] E0 (tVar 0) tNil)) tNext)
  (tRet (tIxG K w (tFld K (tVar 0) "words") (tFld K (tVar 0) "at"))))
def t_PartReader_mark (K : PySem.W.Frag) (w : World) (s_PartReader_now : Sp) (s_is_marked : Sp) (s_PartReader_refuse : Sp) : TS :=
  (tSeq (tAsg (tMeth (He.ga K "PartReader") "now" s_PartReader_now [] E0 (tVar 0) tNil) (gName 1))
  (tSeq (tIfS (tNot (tTru K (tCall s_is_marked [] E0 (tCons (tVar 1) (tCons (tC (.str ".")) tNil))))) (tDrop (tMeth (He.ga K "PartReader") "refuse" s_PartReader_refuse [] E0 (tVar 0) tNil)) tNext)
  (tSeq (sFld K (tVar 0) (tOp (rAddG K) (tFld K (tVar 0) "at") (tC (.int 1))) "at")
  (tRet (tSl (rSlG K) (tVar 1) (tPart (tC (.int 1))) tNoPart)))))
def t_PartReader_begin (K : PySem.W.Frag) (w : World) (s_PartReader_now : Sp) (s_is_figures : Sp) (s_is_marked : Sp) (s_PartReader_refuse : Sp) : TS :=
  (tSeq (tAsg (tMeth (He.ga K "PartReader") "now" s_PartReader_now [] E0 (tVar 0) tNil) (gName 2))
  (tSeq (tAsg (tOrT K (tCall s_is_figures [] E0 (tCons (tVar 2) tNil)) (tOrT K (tCall s_is_marked [] E0 (tCons (tVar 2) (tCons (tC (.str ".")) tNil))) (tCall s_is_marked [] E0 (tCons (tVar 2) (tCons (tC (.str ":")) tNil))))) (gName 3))
  (tSeq (tIfS (tOr (tTest (tOp rGtG (tVar 1) (tC (.int 12)))) (tOr (tTest (tOp (rEqG K) (tFld K (tVar 0) "left") (tC (.int 0)))) (tAnd (tNot (tTru K (tVar 3))) (tAnd (tTest (tOp (rInG K w true) (tVar 2) (tC (.ref (He.ga K "PARTS"))))) (tTest (tOp (rNeG K) (tVar 2) (tC (.str "let")))))))) (tDrop (tMeth (He.ga K "PartReader") "refuse" s_PartReader_refuse [] E0 (tVar 0) tNil)) tNext)
  (tSeq (sFld K (tVar 0) (tOp rSubG (tFld K (tVar 0) "left") (tC (.int 1))) "left")
  (tSeq (sFld K (tVar 0) (tOp (rAddG K) (tFld K (tVar 0) "at") (tC (.int 1))) "at")
  (tRet (tVar 2)))))))
def t_PartReader_let_rows (K : PySem.W.Frag) (w : World) (s_PartReader_now : Sp) (s_PartReader_refuse : Sp) (s_PartReader_mark : Sp) (s_PartReader_part : Sp) : TS :=
  (tSeq (tAsg (tMeth (He.ga K "PartReader") "now" s_PartReader_now [] E0 (tVar 0) tNil) (gName 2))
  (tSeq (tIfS (tTest (tOp (rInG K w true) (tVar 2) (tSl (rSlG K) (tTupN (tCons (tC (.str "1")) (tCons (tC (.str "2")) (tCons (tC (.str "3")) (tCons (tC (.str "4")) tNil))))) tNoPart (tPart (tC (.int 4)))))) (tDrop (tMeth (He.ga K "PartReader") "refuse" s_PartReader_refuse [] E0 (tVar 0) tNil)) tNext)
  (tSeq (sFld K (tVar 0) (tOp (rAddG K) (tFld K (tVar 0) "at") (tC (.int 1))) "at")
  (tSeq (tAsg (tLstN tNil) (gName 3))
  (tSeq (tFor (iRng1 (tCons (tCB rIntA (tCons (tVar 2) tNil)) tNil)) (gName 4) (tSeq (tAsg (tMeth (He.ga K "PartReader") "mark" s_PartReader_mark [] E0 (tVar 0) tNil) (gName 5))
  (tDrop (tBM K "list" rAppendG (tVar 3) (tCons (tTupN (tCons (tVar 5) (tCons (tMeth (He.ga K "PartReader") "part" s_PartReader_part [] E0 (tVar 0) (tCons (tVar 1) tNil)) tNil))) tNil)))))
  (tRet (tCB (rTupleG K) (tCons (tVar 3) tNil))))))))
def t_PartReader_part (K : PySem.W.Frag) (w : World) (s_PartReader_begin : Sp) (s_PartReader_part : Sp) (s_PartReader_let_rows : Sp) : TS :=
  (tSeq (tAsg (tMeth (He.ga K "PartReader") "begin" s_PartReader_begin [] E0 (tVar 0) (tCons (tVar 1) tNil)) (gName 2))
  (tSeq (tIfS (tTest (tOp (rInG K w false) (tVar 2) (tC (.ref (He.ga K "PARTS"))))) (tRet (tOp (rAddG K) (tTupN (tCons (tVar 2) tNil)) (tCB (rTupleG K) (tCons (tLc (iRng1 (tCons (tIxG K w (tC (.ref (He.ga K "PARTS"))) (tVar 2)) tNil)) (gName 3) tYes (tMeth (He.ga K "PartReader") "part" s_PartReader_part [] E0 (tVar 0) (tCons (tOp (rAddG K) (tVar 1) (tC (.int 1))) tNil)) [3]) tNil)))) tNext)
  (tSeq (tIfS (tTest (tOp (rEqG K) (tVar 2) (tC (.str "let")))) (tSeq (tAsg (tMeth (He.ga K "PartReader") "let_rows" s_PartReader_let_rows [] E0 (tVar 0) (tCons (tOp (rAddG K) (tVar 1) (tC (.int 1))) tNil)) (gName 4))
  (tRet (tTupN (tCons (tC (.str "let")) (tCons (tVar 4) (tCons (tMeth (He.ga K "PartReader") "part" s_PartReader_part [] E0 (tVar 0) (tCons (tOp (rAddG K) (tVar 1) (tC (.int 1))) tNil)) tNil)))))) tNext)
  (tSeq (tIfS (tTest (tOp (rEqG K) (tIxG K w (tVar 2) (tC (.int 0))) (tC (.str ".")))) (tRet (tTupN (tCons (tC (.str "name")) (tCons (tSl (rSlG K) (tVar 2) (tPart (tC (.int 1))) tNoPart) tNil)))) tNext)
  (tSeq (tIfS (tTest (tOp (rEqG K) (tIxG K w (tVar 2) (tC (.int 0))) (tC (.str ":")))) (tRet (tTupN (tCons (tC (.str "fun")) (tCons (tSl (rSlG K) (tVar 2) (tPart (tC (.int 1))) tNoPart) tNil)))) tNext)
  (tRet (tTupN (tCons (tC (.str "number")) (tCons (tCB rIntA (tCons (tVar 2) tNil)) tNil)))))))))
def t_PartReader_whole (K : PySem.W.Frag) (w : World) (s_PartReader_part : Sp) (s_PartReader_refuse : Sp) : TS :=
  (tSeq (tAsg (tMeth (He.ga K "PartReader") "part" s_PartReader_part [] E0 (tVar 0) (tCons (tC (.int 1)) tNil)) (gName 1))
  (tSeq (tIfS (tTest (tOp rLtG (tFld K (tVar 0) "at") (tCB (rLenG K) (tCons (tFld K (tVar 0) "words") tNil)))) (tDrop (tMeth (He.ga K "PartReader") "refuse" s_PartReader_refuse [] E0 (tVar 0) tNil)) tNext)
  (tRet (tVar 1))))
def t_read_part (K : PySem.W.Frag) (w : World) (s_PartReader___init__ : Sp) (s_PartReader_whole : Sp) : TS :=
  (tRet (tMeth (He.ga K "PartReader") "whole" s_PartReader_whole [] E0 (tMake (He.ga K "PartReader") s_PartReader___init__ [] E0 (tCons (tVar 0) (tCons (tVar 1) (tCons (tVar 2) tNil)))) tNil))
def t_read_function (K : PySem.W.Frag) (w : World) (s_is_name : Sp) (s_is_marked : Sp) (s_read_part : Sp) : TS :=
  (tSeq (tIfS (tNot (tTru K (tCall s_is_name [] E0 (tCons (tIxG K w (tVar 1) (tC (.int 0))) tNil)))) tNever tNext)
  (tSeq (tAsg (tC (.int 1)) (gName 2))
  (tSeq (tAsg (tLstN tNil) (gName 3))
  (tSeq (tWhile (tAnd (tTest (tOp rLtG (tVar 2) (tCB (rLenG K) (tCons (tVar 1) tNil)))) (tAnd (tTru K (tCall s_is_marked [] E0 (tCons (tIxG K w (tVar 1) (tVar 2)) (tCons (tC (.str ".")) tNil)))) (tTest (tOp rLtG (tCB (rLenG K) (tCons (tVar 3) tNil)) (tC (.int 4)))))) (tSeq (tDrop (tBM K "list" rAppendG (tVar 3) (tCons (tSl (rSlG K) (tIxG K w (tVar 1) (tVar 2)) (tPart (tC (.int 1))) tNoPart) tNil)))
  (tAsg (tOp (rAddG K) (tVar 2) (tC (.int 1))) (gName 2))))
  (tSeq (tIfS (tOr (tTest (tOp (rEqG K) (tVar 2) (tCB (rLenG K) (tCons (tVar 1) tNil)))) (tTest (tOp (rNeG K) (tIxG K w (tVar 1) (tVar 2)) (tC (.str "="))))) tNever tNext)
  (tRet (tTupN (tCons (tIxG K w (tVar 1) (tC (.int 0))) (tCons (tCB (rTupleG K) (tCons (tVar 3) tNil)) (tCons (tCall s_read_part [] E0 (tCons (tVar 0) (tCons (tVar 1) (tCons (tOp (rAddG K) (tVar 2) (tC (.int 1))) tNil)))) tNil))))))))))
def tx_read (K : PySem.W.Frag) (w : World) (s_read_part : Sp) (s_read_function : Sp) (s_looked : Sp) (E : XK) : TS :=
  (tSeq (tAsg (tLstN tNil) (gName 1))
  (tSeq (tAsg (tC .non) (gName 2))
  (tSeq (tAsg (tM1 rSplitG (tVar 0) (tC (.str "\n"))) (gName 3))
  (tSeq (tFor (iEnum K (tCons (tVar 3) tNil)) (gTup K 2 (gCons (gName 4) (gCons (gName 5) gNil))) (tSeq (tAsg (tM1 rSplitG (tVar 5) (tC (.str " "))) (gName 6))
  (tSeq (tIfS (tTest (tOp (rIsG true) (tVar 2) (tC .non))) tNever tNext)
  (tIfS (tTest (tOp (rEqG K) (tIxG K w (tVar 6) (tC (.int 0))) (tC (.str "?")))) (tAsg (tCall s_read_part [] E0 (tCons (tVar 4) (tCons (tVar 6) (tCons (tC (.int 1)) tNil)))) (gName 2)) (tIfS (tTest (tOp (rEqG K) (tCB (rLenG K) (tCons (tVar 1) tNil)) (tC (.int 8)))) tNever (tDrop (tBM K "list" rAppendG (tVar 1) (tCons (tCall s_read_function [] E0 (tCons (tVar 4) (tCons (tVar 6) tNil))) tNil))))))))
  (tSeq (tIfS (tTest (tOp (rIsG false) (tVar 2) (tC .non))) tNever tNext)
  (tRet (tCallE s_looked E (tCons (tTupN (tCons (tCB (rTupleG K) (tCons (tVar 1) tNil)) (tCons (tVar 2) tNil))) tNil))))))))
def t_words_of (K : PySem.W.Frag) (w : World) (s_words_of : Sp) : TS :=
  (tSeq (tIfS (tTest (tOp (rEqG K) (tIxG K w (tVar 0) (tC (.int 0))) (tC (.str "number")))) (tRet (tLstN (tCons (tCB rStrG (tCons (tIxG K w (tVar 0) (tC (.int 1))) tNil)) tNil))) tNext)
  (tSeq (tIfS (tTest (tOp (rEqG K) (tIxG K w (tVar 0) (tC (.int 0))) (tC (.str "name")))) (tRet (tLstN (tCons (tOp (rAddG K) (tC (.str ".")) (tIxG K w (tVar 0) (tC (.int 1)))) tNil))) tNext)
  (tSeq (tIfS (tTest (tOp (rEqG K) (tIxG K w (tVar 0) (tC (.int 0))) (tC (.str "fun")))) (tRet (tLstN (tCons (tOp (rAddG K) (tC (.str ":")) (tIxG K w (tVar 0) (tC (.int 1)))) tNil))) tNext)
  (tSeq (tAsg (tLstN (tCons (tIxG K w (tVar 0) (tC (.int 0))) tNil)) (gName 1))
  (tSeq (tIfS (tTest (tOp (rInG K w false) (tIxG K w (tVar 0) (tC (.int 0))) (tC (.ref (He.ga K "PARTS"))))) (tSeq (tFor (iSeq K (tSl (rSlG K) (tVar 0) (tPart (tC (.int 1))) tNoPart)) (gName 2) (tDrop (tBM K "list" rExtendG (tVar 1) (tCons (tCall s_words_of [] E0 (tCons (tVar 2) tNil)) tNil))))
  (tRet (tVar 1))) tNext)
  (tSeq (tDrop (tBM K "list" rAppendG (tVar 1) (tCons (tCB rStrG (tCons (tCB (rLenG K) (tCons (tIxG K w (tVar 0) (tC (.int 1))) tNil)) tNil)) tNil)))
  (tSeq (tFor (iSeq K (tIxG K w (tVar 0) (tC (.int 1)))) (gTup K 2 (gCons (gName 3) (gCons (gName 2) gNil))) (tSeq (tDrop (tBM K "list" rAppendG (tVar 1) (tCons (tOp (rAddG K) (tC (.str ".")) (tVar 3)) tNil)))
  (tDrop (tBM K "list" rExtendG (tVar 1) (tCons (tCall s_words_of [] E0 (tCons (tVar 2) tNil)) tNil)))))
  (tRet (tOp (rAddG K) (tVar 1) (tCall s_words_of [] E0 (tCons (tIxG K w (tVar 0) (tC (.int 2))) tNil)))))))))))
def t_part_text (K : PySem.W.Frag) (w : World) (s_words_of : Sp) : TS :=
  (tRet (tM1 (rJoinG K) (tC (.str " ")) (tCall s_words_of [] E0 (tCons (tVar 0) tNil))))
def t_function_text (K : PySem.W.Frag) (w : World) (s_words_of : Sp) : TS :=
  (tSeq (tAsg (tVar 0) (gTup K 3 (gCons (gName 1) (gCons (gName 2) (gCons (gName 3) gNil)))))
  (tRet (tM1 (rJoinG K) (tC (.str " ")) (tOp (rAddG K) (tOp (rAddG K) (tOp (rAddG K) (tLstN (tCons (tVar 1) tNil)) (tLc (iSeq K (tVar 2)) (gName 4) tYes (tOp (rAddG K) (tC (.str ".")) (tVar 4)) [4])) (tLstN (tCons (tC (.str "=")) tNil))) (tCall s_words_of [] E0 (tCons (tVar 3) tNil))))))
def t_written (K : PySem.W.Frag) (w : World) (s_function_text : Sp) (s_part_text : Sp) : TS :=
  (tSeq (tAsg (tLc (iSeq K (tIxG K w (tVar 0) (tC (.int 0)))) (gName 2) tYes (tCall s_function_text [] E0 (tCons (tVar 2) tNil)) [2]) (gName 1))
  (tRet (tM1 (rJoinG K) (tC (.str "\n")) (tOp (rAddG K) (tVar 1) (tLstN (tCons (tOp (rAddG K) (tC (.str "? ")) (tCall s_part_text [] E0 (tCons (tIxG K w (tVar 0) (tC (.int 1))) tNil))) tNil))))))
def t_law_pen (K : PySem.W.Frag) (w : World) : TS :=
  (tRet (tLstN (tCons (tCB (rListG K) (tCons (tSl (rSlG K) (tVar 0) tNoPart (tPart (tC (.int 63)))) tNil)) (tCons (tC (.int 0)) (tCons (tC (.int 0)) tNil)))))
def t_law_draw (K : PySem.W.Frag) (w : World) : TS :=
  (tSeq (tIfS (tTest (tOp rGtG (tIxG K w (tVar 0) (tC (.int 2))) (tC (.int 0)))) (tSeq (tAsg (tOp rModG (tIxG K w (tVar 0) (tC (.int 2))) (tVar 1)) (gName 2))
  (tSeq (tAsg (tOp rDivG (tIxG K w (tVar 0) (tC (.int 2))) (tVar 1)) (gSub (tVar 0) (tC (.int 2)) rSetG))
  (tRet (tVar 2)))) tNext)
  (tSeq (tAsg (tIxG K w (tVar 0) (tC (.int 1))) (gName 3))
  (tSeq (tAsg (tOp (rAddG K) (tVar 3) (tC (.int 1))) (gSub (tVar 0) (tC (.int 1)) rSetG))
  (tSeq (tAsg (tIxG K w (tOp (rAddG K) (tIxG K w (tVar 0) (tC (.int 0))) (tLstN (tCons (tC (.int 7)) tNil))) (tOp rModG (tVar 3) (tCB rMax2 (tCons (tC (.int 1)) (tCons (tCB (rLenG K) (tCons (tIxG K w (tVar 0) (tC (.int 0))) tNil)) tNil))))) (gName 4))
  (tSeq (tIfS (tAnd (tTest (tOp rLtG (tVar 3) (tCB (rLenG K) (tCons (tIxG K w (tVar 0) (tC (.int 0))) tNil)))) (tTest (tOp rGeG (tCB rAbsG (tCons (tVar 4) tNil)) (tOp rPowG (tC (.int 10)) (tC (.int 18)))))) (tSeq (tAsg (tOp rDivG (tCB rAbsG (tCons (tVar 4) tNil)) (tVar 1)) (gSub (tVar 0) (tC (.int 2)) rSetG))
  (tRet (tOp rModG (tCB rAbsG (tCons (tVar 4) tNil)) (tVar 1)))) tNext)
  (tSeq (tAsg (tIxG K w (tLstN (tCons (tC (.int 2147483647)) (tCons (tC (.int 2147483629)) (tCons (tC (.int 2147483587)) (tCons (tC (.int 2147483579)) (tCons (tC (.int 2147483563)) (tCons (tC (.int 2147483549)) (tCons (tC (.int 2147483543)) tNil)))))))) (tOp rModG (tVar 3) (tC (.int 7)))) (gName 5))
  (tSeq (tAsg (tOp rModG (tOp rMulG (tOp (rAddG K) (tOp (rAddG K) (tOp rModG (tVar 4) (tC (.int 2147483497))) (tOp rMulG (tC (.int 69621)) (tVar 3))) (tC (.int 13))) (tC (.int 48271))) (tVar 5)) (gName 6))
  (tSeq (tAsg (tOp rModG (tOp (rAddG K) (tOp (rAddG K) (tOp rMulG (tVar 6) (tVar 6)) (tOp rMulG (tC (.int 40692)) (tVar 6))) (tVar 3)) (tC (.int 2147483489))) (gName 6))
  (tRet (tOp rModG (tOp rDivG (tOp rModG (tOp rMulG (tVar 6) (tC (.int 16807))) (tC (.int 2147483477))) (tC (.int 32))) (tVar 1)))))))))))
def t_law_is_name (K : PySem.W.Frag) (w : World) : TS :=
  (tSeq (tIfS (tOr (tNot (tTru K (tCB (rIsiG K) (tCons (tVar 0) (tCons (tC (.ty "str")) tNil))))) (tOr (tTest (tOp rLtG (tCB (rLenG K) (tCons (tVar 0) tNil)) (tC (.int 1)))) (tTest (tOp rGtG (tCB (rLenG K) (tCons (tVar 0) tNil)) (tC (.int 8)))))) (tRet (tC (.bl false))) tNext)
  (tRet (tOp (rEqG K) (tLc (iSeq K (tVar 0)) (gName 1) (tTest (tOp (rInG K w true) (tVar 1) (tC (.str "abcdefghijklmnopqrstuvwxyz")))) (tVar 1) [1]) (tLstN tNil))))
def t_law_innerX (K : PySem.W.Frag) (w : World) (s_law_is_name : Sp) : TS :=
  (tSeq (tIfS (tOr (tNot (tTru K (tCB (rIsiG K) (tCons (tVar 0) (tCons (tC (.ty "tuple")) tNil))))) (tOr (tTest (tOp rLtG (tCB (rLenG K) (tCons (tVar 0) tNil)) (tC (.int 2)))) (tNot (tTru K (tCB (rIsiG K) (tCons (tIxG K w (tVar 0) (tC (.int 0))) (tCons (tC (.ty "str")) tNil))))))) (tRet (tC .non)) tNext)
  (tSeq (tAsg (tDispN (((tC (.str "give")), (tC (.int 2))) :: (((tC (.str "plus")), (tC (.int 2))) :: (((tC (.str "less")), (tC (.int 2))) :: (((tC (.str "times")), (tC (.int 2))) :: (((tC (.str "below")), (tC (.int 2))) :: (((tC (.str "when")), (tC (.int 3))) :: (((tC (.str "pair")), (tC (.int 2))) :: (((tC (.str "left")), (tC (.int 1))) :: (((tC (.str "right")), (tC (.int 1))) :: [])))))))))) (gName 1))
  (tSeq (tIfS (tAnd (tTest (tOp (rInG K w false) (tIxG K w (tVar 0) (tC (.int 0))) (tVar 1))) (tTest (tOp (rEqG K) (tCB (rLenG K) (tCons (tVar 0) tNil)) (tOp (rAddG K) (tIxG K w (tVar 1) (tIxG K w (tVar 0) (tC (.int 0)))) (tC (.int 1)))))) (tRet (tCB (rListG K) (tCons (tSl (rSlG K) (tVar 0) (tPart (tC (.int 1))) tNoPart) tNil))) tNext)
  (tSeq (tIfS (tAnd (tTest (tOp (rInG K w false) (tIxG K w (tVar 0) (tC (.int 0))) (tTupN (tCons (tC (.str "name")) (tCons (tC (.str "fun")) tNil))))) (tAnd (tTest (tOp (rEqG K) (tCB (rLenG K) (tCons (tVar 0) tNil)) (tC (.int 2)))) (tTru K (tCall s_law_is_name [] E0 (tCons (tIxG K w (tVar 0) (tC (.int 1))) tNil))))) (tRet (tLstN tNil)) tNext)
  (tSeq (tIfS (tAnd (tTest (tOp (rEqG K) (tIxG K w (tVar 0) (tC (.int 0))) (tC (.str "number")))) (tAnd (tTest (tOp (rEqG K) (tCB (rLenG K) (tCons (tVar 0) tNil)) (tC (.int 2)))) (tAnd (tTru K (tCB (rIsiG K) (tCons (tIxG K w (tVar 0) (tC (.int 1))) (tCons (tC (.ty "int")) tNil)))) (tNot (tTru K (tCB (rIsiG K) (tCons (tIxG K w (tVar 0) (tC (.int 1))) (tCons (tC (.ty "bool")) tNil)))))))) (tRet (tIf (tTest (tOp rLtG (tCB rAbsG (tCons (tIxG K w (tVar 0) (tC (.int 1))) tNil)) (tOp rPowG (tC (.int 10)) (tC (.int 60))))) (tLstN tNil) (tC .non))) tNext)
  (tSeq (tIfS (tAnd (tTest (tOp (rEqG K) (tIxG K w (tVar 0) (tC (.int 0))) (tC (.str "let")))) (tAnd (tTest (tOp (rEqG K) (tCB (rLenG K) (tCons (tVar 0) tNil)) (tC (.int 3)))) (tAnd (tTru K (tCB (rIsiG K) (tCons (tIxG K w (tVar 0) (tC (.int 1))) (tCons (tC (.ty "tuple")) tNil)))) (tTest (tChain rLeG rLeG (tC (.int 1)) (tCB (rLenG K) (tCons (tIxG K w (tVar 0) (tC (.int 1))) tNil)) (tC (.int 4))))))) (tSeq (tFor (iSeq K (tIxG K w (tVar 0) (tC (.int 1)))) (gName 2) (tIfS (tOr (tNot (tTru K (tCB (rIsiG K) (tCons (tVar 2) (tCons (tC (.ty "tuple")) tNil))))) (tOr (tTest (tOp (rNeG K) (tCB (rLenG K) (tCons (tVar 2) tNil)) (tC (.int 2)))) (tNot (tTru K (tCall s_law_is_name [] E0 (tCons (tIxG K w (tVar 2) (tC (.int 0))) tNil)))))) (tRet (tC .non)) tNext))
  (tRet (tOp (rAddG K) (tLc (iSeq K (tIxG K w (tVar 0) (tC (.int 1)))) (gName 2) tYes (tIxG K w (tVar 2) (tC (.int 1))) [2]) (tLstN (tCons (tIxG K w (tVar 0) (tC (.int 2))) tNil))))) tNext)
  (tRet (tC .non))))))))
def t_law_is_body (K : PySem.W.Frag) (w : World) (s_law_inner : Sp) : TS :=
  (tSeq (tAsg (tLstN (tCons (tTupN (tCons (tVar 0) (tCons (tC (.int 1)) tNil))) tNil)) (gName 1))
  (tSeq (tAsg (tC (.int 0)) (gName 2))
  (tSeq (tWhile (tTest (tOp rLtG (tVar 2) (tCB (rLenG K) (tCons (tVar 1) tNil)))) (tSeq (tAsg (tIxG K w (tVar 1) (tVar 2)) (gTup K 2 (gCons (gName 3) (gCons (gName 4) gNil))))
  (tSeq (tAsg (tCall s_law_inner [] E0 (tCons (tVar 3) tNil)) (gName 5))
  (tSeq (tIfS (tOr (tTest (tOp (rIsG false) (tVar 5) (tC .non))) (tOr (tTest (tOp rGtG (tVar 4) (tC (.int 12)))) (tTest (tOp rGtG (tVar 2) (tC (.int 59)))))) (tRet (tC (.bl false))) tNext)
  (tSeq (tDrop (tBM K "list" rExtendG (tVar 1) (tCons (tLc (iSeq K (tVar 5)) (gName 6) tYes (tTupN (tCons (tVar 6) (tCons (tOp (rAddG K) (tVar 4) (tC (.int 1))) tNil))) [6]) tNil)))
  (tAsg (tOp (rAddG K) (tVar 2) (tC (.int 1))) (gName 2)))))))
  (tRet (tC (.bl true))))))
def t_law_is_function (K : PySem.W.Frag) (w : World) (s_law_is_name : Sp) (s_law_is_body : Sp) : TS :=
  (tSeq (tIfS (tOr (tNot (tTru K (tCB (rIsiG K) (tCons (tVar 0) (tCons (tC (.ty "tuple")) tNil))))) (tOr (tTest (tOp (rNeG K) (tCB (rLenG K) (tCons (tVar 0) tNil)) (tC (.int 3)))) (tOr (tNot (tTru K (tCall s_law_is_name [] E0 (tCons (tIxG K w (tVar 0) (tC (.int 0))) tNil)))) (tNot (tTru K (tCall s_law_is_body [] E0 (tCons (tIxG K w (tVar 0) (tC (.int 2))) tNil))))))) (tRet (tC (.bl false))) tNext)
  (tSeq (tIfS (tOr (tNot (tTru K (tCB (rIsiG K) (tCons (tIxG K w (tVar 0) (tC (.int 1))) (tCons (tC (.ty "tuple")) tNil))))) (tTest (tOp rGtG (tCB (rLenG K) (tCons (tIxG K w (tVar 0) (tC (.int 1))) tNil)) (tC (.int 4))))) (tRet (tC (.bl false))) tNext)
  (tRet (tOp (rEqG K) (tLc (iSeq K (tIxG K w (tVar 0) (tC (.int 1)))) (gName 1) (tNot (tTru K (tCall s_law_is_name [] E0 (tCons (tVar 1) tNil)))) (tVar 1) [1]) (tLstN tNil)))))
def t_law_lets (K : PySem.W.Frag) (w : World) (s_law_inner : Sp) (s_law_lets : Sp) : TS :=
  (tSeq (tAsg (tLstN tNil) (gName 1))
  (tSeq (tIfS (tTest (tOp (rEqG K) (tIxG K w (tVar 0) (tC (.int 0))) (tC (.str "let")))) (tAsg (tLc (iSeq K (tIxG K w (tVar 0) (tC (.int 1)))) (gName 2) tYes (tIxG K w (tVar 2) (tC (.int 0))) [2]) (gName 1)) tNext)
  (tSeq (tFor (iSeq K (tCall s_law_inner [] E0 (tCons (tVar 0) tNil))) (gName 3) (tAsg (tOp (rAddG K) (tVar 1) (tCall s_law_lets [] E0 (tCons (tVar 3) tNil))) (gName 1)))
  (tRet (tVar 1)))))
def t_law_strange (K : PySem.W.Frag) (w : World) (s_law_inner : Sp) (s_law_strange : Sp) : TS :=
  (tSeq (tIfS (tOr (tAnd (tTest (tOp (rEqG K) (tIxG K w (tVar 0) (tC (.int 0))) (tC (.str "name")))) (tTest (tOp (rInG K w true) (tIxG K w (tVar 0) (tC (.int 1))) (tVar 1)))) (tAnd (tTest (tOp (rEqG K) (tIxG K w (tVar 0) (tC (.int 0))) (tC (.str "fun")))) (tTest (tOp (rInG K w true) (tIxG K w (tVar 0) (tC (.int 1))) (tVar 2))))) (tRet (tIxG K w (tVar 0) (tC (.int 1)))) tNext)
  (tSeq (tIfS (tTest (tOp (rEqG K) (tIxG K w (tVar 0) (tC (.int 0))) (tC (.str "let")))) (tAsg (tOp (rAddG K) (tVar 1) (tLc (iSeq K (tIxG K w (tVar 0) (tC (.int 1)))) (gName 3) tYes (tIxG K w (tVar 3) (tC (.int 0))) [3])) (gName 1)) tNext)
  (tSeq (tFor (iSeq K (tCall s_law_inner [] E0 (tCons (tVar 0) tNil))) (gName 4) (tSeq (tAsg (tCall s_law_strange [] E0 (tCons (tVar 4) (tCons (tVar 1) (tCons (tVar 2) tNil)))) (gName 5))
  (tIfS (tTest (tOp (rNeG K) (tVar 5) (tC (.str "")))) (tRet (tVar 5)) tNext)))
  (tRet (tC (.str ""))))))
def t_law_due (K : PySem.W.Frag) (w : World) (s_law_is_function : Sp) (s_law_is_body : Sp) (s_law_lets : Sp) (s_law_strange : Sp) : TS :=
  (tSeq (tIfS (tOr (tNot (tTru K (tCB (rIsiG K) (tCons (tVar 0) (tCons (tC (.ty "tuple")) tNil))))) (tOr (tTest (tOp (rNeG K) (tCB (rLenG K) (tCons (tVar 0) tNil)) (tC (.int 2)))) (tOr (tNot (tTru K (tCB (rIsiG K) (tCons (tIxG K w (tVar 0) (tC (.int 0))) (tCons (tC (.ty "tuple")) tNil))))) (tTest (tOp rGtG (tCB (rLenG K) (tCons (tIxG K w (tVar 0) (tC (.int 0))) tNil)) (tC (.int 8))))))) (tRet (tTupN (tCons (tC (.str "program")) (tCons (tC (.str "")) tNil)))) tNext)
  (tSeq (tIfS (tOr (tTest (tOp (rNeG K) (tLc (iSeq K (tIxG K w (tVar 0) (tC (.int 0)))) (gName 1) (tNot (tTru K (tCall s_law_is_function [] E0 (tCons (tVar 1) tNil)))) (tVar 1) [1]) (tLstN tNil))) (tNot (tTru K (tCall s_law_is_body [] E0 (tCons (tIxG K w (tVar 0) (tC (.int 1))) tNil))))) (tRet (tTupN (tCons (tC (.str "program")) (tCons (tC (.str "")) tNil)))) tNext)
  (tSeq (tAsg (tLc (iSeq K (tIxG K w (tVar 0) (tC (.int 0)))) (gName 1) tYes (tIxG K w (tVar 1) (tC (.int 0))) [1]) (gName 2))
  (tSeq (tFor (iRng1 (tCons (tCB (rLenG K) (tCons (tVar 2) tNil)) tNil)) (gName 3) (tIfS (tTest (tOp (rInG K w false) (tIxG K w (tVar 2) (tVar 3)) (tSl (rSlG K) (tVar 2) tNoPart (tPart (tVar 3))))) (tRet (tTupN (tCons (tC (.str "twice")) (tCons (tIxG K w (tVar 2) (tVar 3)) tNil)))) tNext))
  (tSeq (tFor (iSeq K (tOp (rAddG K) (tLc (iSeq K (tIxG K w (tVar 0) (tC (.int 0)))) (gName 1) tYes (tTupN (tCons (tIxG K w (tVar 1) (tC (.int 1))) (tCons (tIxG K w (tVar 1) (tC (.int 2))) tNil))) [1]) (tLstN (tCons (tTupN (tCons (tTupN tNil) (tCons (tIxG K w (tVar 0) (tC (.int 1))) tNil))) tNil)))) (gTup K 2 (gCons (gName 4) (gCons (gName 5) gNil))) (tSeq (tAsg (tOp (rAddG K) (tCB (rListG K) (tCons (tVar 4) tNil)) (tCall s_law_lets [] E0 (tCons (tVar 5) tNil))) (gName 6))
  (tSeq (tFor (iRng1 (tCons (tCB (rLenG K) (tCons (tVar 6) tNil)) tNil)) (gName 3) (tIfS (tTest (tOp (rInG K w false) (tIxG K w (tVar 6) (tVar 3)) (tSl (rSlG K) (tVar 6) tNoPart (tPart (tVar 3))))) (tRet (tTupN (tCons (tC (.str "hidden")) (tCons (tIxG K w (tVar 6) (tVar 3)) tNil)))) tNext))
  (tSeq (tAsg (tCall s_law_strange [] E0 (tCons (tVar 5) (tCons (tCB (rListG K) (tCons (tVar 4) tNil)) (tCons (tVar 2) tNil)))) (gName 7))
  (tIfS (tTest (tOp (rNeG K) (tVar 7) (tC (.str "")))) (tRet (tTupN (tCons (tC (.str "stranger")) (tCons (tVar 7) tNil)))) tNext)))))
  (tRet (tTupN (tCons (tC (.str "")) (tCons (tC (.str "")) tNil)))))))))
def t_law_told (K : PySem.W.Frag) (w : World) (s_looked : Sp) : TS :=
  (tSeq (tAsg (tC .non) (gName 1))
  (tSeq (tAsg (tC .non) (gName 2))
  (tSeq (tTryK K (.ref (He.ga K "LazyError")) 3 (fun W => (tAsg (tCallS s_looked (WE W) (tCons (tVar 0) tNil)) (gName 1))) (fun _ _ _ => (tAsg (tVar 3) (gName 2))))
  (tSeq (tIfS (tTest (tOp (rIsG false) (tVar 2) (tC .non))) (tRet (tIf (tTest (tOp (rEqG K) (tVar 1) (tVar 0))) (tTupN (tCons (tC (.str "")) (tCons (tC (.str "")) tNil))) (tTupN (tCons (tC (.str "another")) (tCons (tC (.str "")) tNil))))) tNext)
  (tSeq (tAsg (tLstN (tCons (tCB (rIsiX K) (tCons (tVar 2) (tCons (tC (.ref (He.ga K "NoProgram"))) tNil))) (tCons (tCB (rIsiX K) (tCons (tVar 2) (tCons (tC (.ref (He.ga K "Twice"))) tNil))) (tCons (tCB (rIsiX K) (tCons (tVar 2) (tCons (tC (.ref (He.ga K "Hidden"))) tNil))) tNil)))) (gName 4))
  (tSeq (tAsg (tOp (rAddG K) (tVar 4) (tLstN (tCons (tCB (rIsiX K) (tCons (tVar 2) (tCons (tC (.ref (He.ga K "Stranger"))) tNil))) (tCons (tCB (rIsiX K) (tCons (tVar 2) (tCons (tC (.ref (He.ga K "More"))) tNil))) (tCons (tCB (rIsiX K) (tCons (tVar 2) (tCons (tC (.ref (He.ga K "NoRows"))) tNil))) tNil))))) (gName 4))
  (tSeq (tAsg (tOp (rAddG K) (tVar 4) (tLstN (tCons (tCB (rIsiX K) (tCons (tVar 2) (tCons (tC (.ref (He.ga K "NoText"))) tNil))) (tCons (tCB (rIsiX K) (tCons (tVar 2) (tCons (tC (.ref (He.ga K "NoRow"))) tNil))) tNil)))) (gName 4))
  (tSeq (tIfS (tOr (tTest (tOp (rNeG K) (tBM K "list" (rCount K) (tVar 4) (tCons (tC (.bl true)) tNil)) (tC (.int 1)))) (tOr (tNot (tTru K (tCB (rIsiX K) (tCons (tVar 2) (tCons (tC (.ty "ValueError")) tNil))))) (tTest (tOp rGtG (tBM K "list" (rIndex K) (tVar 4) (tCons (tC (.bl true)) tNil)) (tC (.int 3)))))) (tRet (tTupN (tCons (tC (.str "none")) (tCons (tC (.str "")) tNil)))) tNext)
  (tSeq (tIfS (tTru K (tIxG K w (tVar 4) (tC (.int 0)))) (tRet (tTupN (tCons (tC (.str "program")) (tCons (tC (.str "")) tNil)))) tNext)
  (tRet (tTupN (tCons (tIxG K w (tLstN (tCons (tC (.str "program")) (tCons (tC (.str "twice")) (tCons (tC (.str "hidden")) (tCons (tC (.str "stranger")) tNil))))) (tBM K "list" (rIndex K) (tVar 4) (tCons (tC (.bl true)) tNil))) (tCons (tFldX K "name" (tVar 2)) tNil)))))))))))))
def t_law_name (K : PySem.W.Frag) (w : World) (s_law_draw : Sp) : TS :=
  (tSeq (tIfS (tAnd (tTest (tOp (rNeG K) (tVar 1) (tLstN tNil))) (tTest (tOp rGtG (tCall s_law_draw [] E0 (tCons (tVar 0) (tCons (tC (.int 9)) tNil))) (tC (.int 0))))) (tRet (tBM0 K "list" rPopG (tVar 1))) tNext)
  (tRet (tIxG K w (tC (.str "abcdefgh")) (tCall s_law_draw [] E0 (tCons (tVar 0) (tCons (tC (.int 8)) tNil))))))
def t_law_lets_in (K : PySem.W.Frag) (w : World) (s_law_draw : Sp) (s_law_lets_in : Sp) (s_law_name : Sp) : TS :=
  (tSeq (tAsg (tCall s_law_draw [] E0 (tCons (tVar 0) (tCons (tC (.int 8)) tNil))) (gName 4))
  (tSeq (tIfS (tOr (tTest (tOp (rEqG K) (tVar 1) (tC (.int 0)))) (tTest (tOp (rEqG K) (tVar 4) (tC (.int 0))))) (tSeq (tAsg (tOp (rAddG K) (tLc (iSeq K (tVar 3)) (gName 6) tYes (tTupN (tCons (tC (.str "name")) (tCons (tVar 6) tNil))) [6]) (tLstN (tCons (tTupN (tCons (tC (.str "fun")) (tCons (tC (.str "f")) tNil))) (tCons (tTupN (tCons (tC (.str "number")) (tCons (tC (.int 2)) tNil))) tNil)))) (gName 5))
  (tSeq (tAsg (tOp (rAddG K) (tVar 5) (tLstN (tCons (tTupN (tCons (tC (.str "name")) (tCons (tIxG K w (tC (.str "abcdefgh")) (tCall s_law_draw [] E0 (tCons (tVar 0) (tCons (tC (.int 8)) tNil)))) tNil))) (tCons (tTupN (tCons (tC (.str "fun")) (tCons (tIxG K w (tC (.str "fghi")) (tCall s_law_draw [] E0 (tCons (tVar 0) (tCons (tC (.int 4)) tNil)))) tNil))) tNil)))) (gName 5))
  (tRet (tIxG K w (tVar 5) (tCall s_law_draw [] E0 (tCons (tVar 0) (tCons (tCB (rLenG K) (tCons (tVar 5) tNil)) tNil))))))) tNext)
  (tSeq (tIfS (tTest (tOp (rEqG K) (tVar 4) (tC (.int 1)))) (tRet (tTupN (tCons (tC (.str "plus")) (tCons (tCall s_law_lets_in [] E0 (tCons (tVar 0) (tCons (tOp rSubG (tVar 1) (tC (.int 1))) (tCons (tVar 2) (tCons (tVar 3) tNil))))) (tCons (tCall s_law_lets_in [] E0 (tCons (tVar 0) (tCons (tC (.int 0)) (tCons (tVar 2) (tCons (tVar 3) tNil))))) tNil))))) tNext)
  (tSeq (tAsg (tLc (iRng1 (tCons (tOp (rAddG K) (tC (.int 1)) (tCall s_law_draw [] E0 (tCons (tVar 0) (tCons (tC (.int 4)) tNil)))) tNil)) (gName 8) tYes (tCall s_law_name [] E0 (tCons (tVar 0) (tCons (tVar 2) tNil))) [8]) (gName 7))
  (tSeq (tAsg (tIxG K w (tLstN (tCons (tOp (rAddG K) (tVar 3) (tVar 7)) (tCons (tVar 3) tNil))) (tCB rIntG (tCons (tOp (rEqG K) (tCall s_law_draw [] E0 (tCons (tVar 0) (tCons (tC (.int 9)) tNil))) (tC (.int 0))) tNil))) (gName 9))
  (tSeq (tAsg (tLstN tNil) (gName 10))
  (tSeq (tFor (iSeq K (tVar 7)) (gName 6) (tDrop (tBM K "list" rAppendG (tVar 10) (tCons (tTupN (tCons (tVar 6) (tCons (tCall s_law_lets_in [] E0 (tCons (tVar 0) (tCons (tIxG K w (tLstN (tCons (tC (.int 0)) (tCons (tOp rSubG (tVar 1) (tC (.int 1))) tNil))) (tCB rIntG (tCons (tOp (rEqG K) (tCall s_law_draw [] E0 (tCons (tVar 0) (tCons (tC (.int 3)) tNil))) (tC (.int 0))) tNil))) (tCons (tVar 2) (tCons (tVar 9) tNil))))) tNil))) tNil))))
  (tRet (tTupN (tCons (tC (.str "let")) (tCons (tCB (rTupleG K) (tCons (tVar 10) tNil)) (tCons (tCall s_law_lets_in [] E0 (tCons (tVar 0) (tCons (tOp rSubG (tVar 1) (tC (.int 1))) (tCons (tVar 2) (tCons (tVar 9) tNil))))) tNil))))))))))))
def t_law_body_of (K : PySem.W.Frag) (w : World) (s_law_draw : Sp) (s_law_lets_in : Sp) : TS :=
  (tSeq (tAsg (tLstN tNil) (gName 2))
  (tSeq (tIfS (tTest (tOp (rEqG K) (tCall s_law_draw [] E0 (tCons (tVar 0) (tCons (tC (.int 2)) tNil))) (tC (.int 0)))) (tAsg (tLc (iSeq K (tC (.str "hgfedcba"))) (gName 3) (tTest (tOp (rInG K w true) (tVar 3) (tVar 1))) (tVar 3) [3]) (gName 2)) tNext)
  (tRet (tCall s_law_lets_in [] E0 (tCons (tVar 0) (tCons (tOp (rAddG K) (tC (.int 1)) (tCall s_law_draw [] E0 (tCons (tVar 0) (tCons (tC (.int 4)) tNil)))) (tCons (tVar 2) (tCons (tCB (rListG K) (tCons (tVar 1) tNil)) tNil))))))))
def t_law_named_program (K : PySem.W.Frag) (w : World) (s_law_draw : Sp) (s_law_body_of : Sp) : TS :=
  (tSeq (tAsg (tLstN tNil) (gName 1))
  (tSeq (tFor (iSeq K (tSl (rSlG K) (tLstN (tCons (tC (.str "f")) (tCons (tC (.str "g")) tNil))) tNoPart (tPart (tOp (rAddG K) (tC (.int 1)) (tCall s_law_draw [] E0 (tCons (tVar 0) (tCons (tC (.int 2)) tNil))))))) (gName 2) (tSeq (tAsg (tSl (rSlG K) (tTupN (tCons (tC (.str "a")) (tCons (tC (.str "b")) (tCons (tC (.str "c")) tNil)))) tNoPart (tPart (tCall s_law_draw [] E0 (tCons (tVar 0) (tCons (tC (.int 4)) tNil))))) (gName 3))
  (tDrop (tBM K "list" rAppendG (tVar 1) (tCons (tTupN (tCons (tVar 2) (tCons (tVar 3) (tCons (tCall s_law_body_of [] E0 (tCons (tVar 0) (tCons (tVar 3) tNil))) tNil)))) tNil)))))
  (tRet (tTupN (tCons (tCB (rTupleG K) (tCons (tVar 1) tNil)) (tCons (tCall s_law_body_of [] E0 (tCons (tVar 0) (tCons (tTupN tNil) tNil))) tNil))))))
def t_law_read_told (K : PySem.W.Frag) (w : World) (s_read : Sp) (s_written : Sp) : TS :=
  (tSeq (tAsg (tC .non) (gName 1))
  (tSeq (tAsg (tC (.str "")) (gName 2))
  (tSeq (tTryM K (((.ref (He.ga K "Hidden")), some 3, (fun a cls d => (tAsg (tTupN (tCons (tC (.str "hidden")) (tCons (tXf a cls d (He.ga K "Hidden") "name" (tVar 3)) tNil))) (gName 2)))) :: (((.ref (He.ga K "Stranger")), some 3, (fun a cls d => (tAsg (tTupN (tCons (tC (.str "stranger")) (tCons (tXf a cls d (He.ga K "Stranger") "name" (tVar 3)) tNil))) (gName 2)))) :: (((.ref (He.ga K "NoProgram")), none, (fun _ _ _ => (tAsg (tTupN (tCons (tC (.str "program")) (tCons (tC (.str "")) tNil))) (gName 2)))) :: []))) (fun W => (tAsg (tCallS s_read (WE W) (tCons (tCall s_written [] E0 (tCons (tVar 0) tNil)) tNil)) (gName 1))))
  (tRet (tIf (tTest (tOp (rIsG false) (tVar 1) (tC .non))) (tVar 2) (tIxG K w (tLstN (tCons (tC (.str "another")) (tCons (tTupN (tCons (tC (.str "")) (tCons (tC (.str "")) tNil))) tNil))) (tCB rIntG (tCons (tOp (rEqG K) (tVar 1) (tVar 0)) tNil))))))))
def t_law (K : PySem.W.Frag) (w : World) (s_law_pen : Sp) (s_law_named_program : Sp) (s_law_due : Sp) (s_law_told : Sp) (s_law_read_told : Sp) : TS :=
  (tSeq (tAsg (tCall s_law_pen [] E0 (tCons (tVar 0) tNil)) (gName 1))
  (tSeq (tFor (iRng1 (tCons (tCB rMax2 (tCons (tC (.int 2)) (tCons (tCB rMin2 (tCons (tC (.int 8)) (tCons (tCB (rLenG K) (tCons (tVar 0) tNil)) tNil))) tNil))) tNil)) (gName 2) (tSeq (tAsg (tCall s_law_named_program [] E0 (tCons (tVar 1) tNil)) (gName 3))
  (tSeq (tAsg (tCall s_law_due [] E0 (tCons (tVar 3) tNil)) (gName 4))
  (tSeq (tIfS (tTest (tOp (rNeG K) (tCall s_law_told [] E0 (tCons (tVar 3) tNil)) (tVar 4))) (tRet (tC (.bl false))) tNext)
  (tIfS (tAnd (tTest (tOp (rNeG K) (tIxG K w (tVar 4) (tC (.int 0))) (tC (.str "program")))) (tTest (tOp (rNeG K) (tCall s_law_read_told [] E0 (tCons (tVar 3) tNil)) (tVar 4)))) (tRet (tC (.bl false))) tNext)))))
  (tRet (tC (.bl true)))))
/-! ### the draws -/
theorem pen_ne {H : Hp} {pen L : Addr} {ns : List Int} {i j : Int} (hp : H pen = some (.lst [.ref L, .int i, .int j])) (hL : H L = some (.lst (ns.map V.int))) : L ≠ pen := by
  rintro rfl
  rw [hL] at hp
  have := congrArg (fun o => match o with | some (HO.lst (x :: _)) => (match x with | .ref _ => true | _ => false) | _ => false) hp
  cases ns <;> simp at this
/-- a pen: the script's list L, the turn, what is left of a great number -/
def PenAt (H : Hp) (pen L : Addr) : Prop := ∃ (ns : List Int) (at_ rest : Int), H pen = some (.lst [.ref L, .int at_, .int rest]) ∧ H L = some (.lst (ns.map V.int)) ∧ 0 ≤ at_ ∧ 0 ≤ rest ∧ ns.length ≤ 63
section
variable {H H' : Hp} {pen L d : Addr}
theorem PenAt.same (h : PenAt H pen L) (s : Same H H') : PenAt H' pen L := by
  obtain ⟨ns, a, r, hp, hL, x⟩ := h
  exact ⟨ns, a, r, s _ _ hp, s _ _ hL, x⟩
/-- a pen stays where another object changes -/
theorem PenAt.chg (h : PenAt H pen L) (c : Chg d H H') (n1 : pen ≠ d) (n2 : L ≠ d) : PenAt H' pen L := by
  obtain ⟨ns, a, r, hp, hL, x⟩ := h
  exact ⟨ns, a, r, c _ _ n1 hp, c _ _ n2 hL, x⟩
theorem PenAt.ne (h : PenAt H pen L) (hd : H d = none) : pen ≠ d ∧ L ≠ d := by
  obtain ⟨ns, a, r, hp, hL, x⟩ := h
  exact ⟨ne_of_none hp hd, ne_of_none hL hd⟩
end
def spDraw : Sp := fun vs H Q _ => ∃ (pen L : Addr) (many : Int), vs = [.ref pen, .int many] ∧ PenAt H pen L ∧ 0 < many ∧ many.natAbs < 2 ^ 250 ∧
  ∀ (v : Int) (H' : Hp), 0 ≤ v → v < many → PenAt H' pen L → Chg pen H H' → Q (.int v) H'
theorem g_draw {H : Hp} {Q : VK} {E : XK} {pen L : Addr} {many : Int} (h : PenAt H pen L) (h0 : 0 < many) (h1 : many.natAbs < 2 ^ 250) (q : ∀ (v : Int) (H' : Hp), 0 ≤ v → v < many → PenAt H' pen L → Chg pen H H' → Q (.int v) H') :
    spDraw ([.ref pen, .int many] ++ []) H Q E := ⟨pen, L, many, rfl, h, h0, h1, q⟩
theorem pure_draw {K : PySem.W.Frag} {w : World} : PureOk 2 spDraw (t_law_draw K w) 7 := by
  refine ⟨fun vs H Q E ⟨pen, L, many, e, _⟩ => by rw [e]; rfl, ?_⟩
  rintro vs H Q E ⟨pen, L, many, rfl, ⟨ns, at_, rest, hp, hL, h0, h1, hl⟩, hm, hmb, q'⟩
  have hne : L ≠ pen := pen_ne hp hL
  have q : ∀ (v a' r' : Int) (H' : Hp), 0 ≤ v → v < many → 0 ≤ a' → 0 ≤ r' → H' pen = some (.lst [.ref L, .int a', .int r']) → Chg pen H H' → Q (.int v) H' :=
    fun v a' r' H' v0 v1 a0 r0 e c => q' v H' v0 v1 ⟨ns, a', r', e, c L _ hne hL, a0, r0, hl⟩ c
  have hdw : ∀ x, CDivW x many := fun x => wide_div hm hmb (by decide) (by decide)
  have mod0 : ∀ x : Int, 0 ≤ x % many := fun x => Int.emod_nonneg x (Int.ne_of_gt hm)
  have mod1 : ∀ x : Int, x % many < many := fun x => Int.emod_lt_of_pos x hm
  show t_law_draw K w _ [some (.ref pen), some (.int many), none, none, none, none, none] H
  unfold t_law_draw
  walk_at "go"
  refine g_ite (fun hr => ?_) (fun _ => ?_)
  · walk_at "go"
    refine g_modI hm ?_
    walk_at "go"
    refine g_divI (hdw _) ?_
    walk_at "go"
    refine g_setL hp rfl fun H' e1 c1 => ?_
    walk_at "go"
    exact q _ at_ (rest / many) H' (mod0 _) (mod1 _) h0 (Int.ediv_nonneg h1 (Int.le_of_lt hm)) e1 c1
  · walk_at "go"
    refine g_setL hp rfl fun H1 e1 c1 => ?_
    have hL1 := c1 L _ hne hL
    walk_at "go"
    intro p H2 np e2 s2
    have hL2 := s2 _ _ hL1
    have hp2 := s2 _ _ e1
    walk_at "go"
    refine g_addL hL2 e2 (by show _ ≤ 16777216; simp; omega) fun p' H3 np' e3 s3 => ?_
    have hL3 := s3 _ _ hL2
    have hp3 := s3 _ _ hp2
    walk_at "go"
    refine g_lenL (.of hL3) ?_
    walk_at "go"
    refine g_modI (by omega) ?_
    have hat : ∃ c : Int, atI (List.map V.int ns ++ [V.int 7]) (at_ % max 1 ((List.map V.int ns).length : Int)) = some (.int c) := by
      have a0 := Int.emod_nonneg at_ (b := max 1 ((List.map V.int ns).length : Int)) (by omega)
      have a1 := Int.emod_lt_of_pos at_ (b := max 1 ((List.map V.int ns).length : Int)) (by omega)
      obtain ⟨v, h1, h2, _⟩ := atI_in (xs := List.map V.int ns ++ [V.int 7]) a0 (by rw [List.length_append, List.length_singleton]; omega)
      rw [List.mem_append, List.mem_map] at h2
      rcases h2 with ⟨c, _, rfl⟩ | h2
      · exact ⟨c, h1⟩
      · rw [List.mem_singleton] at h2
        exact ⟨7, h2 ▸ h1⟩
    obtain ⟨c, hc⟩ := hat
    refine g_ixL (.of e3) hc ?_
    walk_at "go"
    refine g_lenL (.of hL3) ?_
    walk_at "go"
    refine g_cut (B := ?B) ?f ?b
    case f =>
      intro tail
      refine g_ite (fun _ => ?_) (fun _ => ?_)
      · walk_at "go"
        refine g_powI ⟨by decide, by decide, by decide⟩ ?_
        walk_at "go"
        refine g_ite (fun hbig => ?_) (fun _ => ?_)
        · walk_at "go"
          refine g_divI (hdw _) ?_
          walk_at "go"
          refine g_setL hp3 rfl fun H4 e4 c4 => ?_
          walk_at "go"
          refine g_modI hm ?_
          exact q _ (at_ + 1) (c.natAbs / many) H4 (mod0 _) (mod1 _) (by omega) (Int.ediv_nonneg (by omega) (Int.le_of_lt hm)) e4 ((c1.trans (.same s2)).trans ((Chg.same s3).trans c4))
        · exact tail.out
      · refine g_F rfl ?_
        exact tail.out
    case b =>
      walk_at "go"
      intro p4 H4 np4 e4 s4
      walk_at "go"
      refine g_modI (by decide) ?_
      obtain ⟨pr, hpr, hmem⟩ : ∃ pr : Int, atI [V.int 2147483647, V.int 2147483629, V.int 2147483587, V.int 2147483579, V.int 2147483563, V.int 2147483549, V.int 2147483543] (at_ % 7) = some (.int pr) ∧ 0 < pr ∧ pr < 2 ^ 31 := by
        obtain ⟨v, h1, h2, _⟩ := atI_in (xs := [V.int 2147483647, V.int 2147483629, V.int 2147483587, V.int 2147483579, V.int 2147483563, V.int 2147483549, V.int 2147483543]) (Int.emod_nonneg at_ (by decide)) (Int.emod_lt_of_pos at_ (b := 7) (by decide))
        simp only [List.mem_cons, List.not_mem_nil, or_false] at h2
        rcases h2 with rfl | rfl | rfl | rfl | rfl | rfl | rfl <;> exact ⟨_, h1, by decide, by decide⟩
      refine g_ixL (.of e4) hpr ?_
      walk_at "go"
      refine g_modI (by decide) ?_
      walk_at "go"
      refine g_mulI (.inl ⟨by decide, by decide⟩) ?_
      walk_at "go"
      refine g_mulI (.inr ⟨by decide, by decide⟩) ?_
      walk_at "go"
      refine g_modI hmem.1 ?_
      have x0 := Int.emod_nonneg ((c % 2147483497 + 69621 * at_ + 13) * 48271) (Int.ne_of_gt hmem.1)
      have x1 := Int.emod_lt_of_pos ((c % 2147483497 + 69621 * at_ + 13) * 48271) hmem.1
      generalize (c % 2147483497 + 69621 * at_ + 13) * 48271 % pr = x at x0 x1
      walk_at "go"
      refine g_mulI (.inl ⟨by omega, by omega⟩) ?_
      walk_at "go"
      refine g_mulI (.inl ⟨by decide, by decide⟩) ?_
      walk_at "go"
      refine g_modI (by decide) ?_
      have y0 := Int.emod_nonneg (x * x + 40692 * x + at_) (b := 2147483489) (by decide)
      have y1 := Int.emod_lt_of_pos (x * x + 40692 * x + at_) (b := 2147483489) (by decide)
      generalize (x * x + 40692 * x + at_) % 2147483489 = y at y0 y1
      walk_at "go"
      refine g_mulI (.inl ⟨by omega, by omega⟩) ?_
      walk_at "go"
      refine g_modI (by decide) ?_
      have z0 := Int.emod_nonneg (y * 16807) (b := 2147483477) (by decide)
      have z1 := Int.emod_lt_of_pos (y * 16807) (b := 2147483477) (by decide)
      generalize y * 16807 % 2147483477 = z at z0 z1
      have fin : ∀ u : Int, Q (.int (u / 32 % many)) H4 := fun u =>
        q _ (at_ + 1) rest H4 (mod0 _) (mod1 _) (by omega) h1 (s4 _ _ hp3) ((c1.trans (.same s2)).trans ((Chg.same s3).trans (.same s4)))
      walk_at "go"
      refine g_divI ⟨by decide, by decide⟩ ?_
      walk_at "go"
      exact g_modI hm (fin _)


/-! ### names -/
open SX in
/-- the k-th name: the word with another letter at a place -/
def nameK (cs : List Nat) (at_ first by_ k : Nat) : Str := SX.S (cs.take at_ ++ [97 + (first + by_ * k) % 26] ++ cs.drop (at_ + 1))
theorem cutS_to (cs : List Nat) (n : Nat) (h : n ≤ cs.length) : cutS (SX.S cs) none (some (n : Int)) = SX.S (cs.take n) := by
  unfold cutS
  rw [HT.sIx_none, HT.sIx_nat, SX.S_len, Nat.min_eq_left h]
  rfl
theorem cutS_from (cs : List Nat) (n : Nat) (h : n ≤ cs.length) : cutS (SX.S cs) (some (n : Int)) none = SX.S (cs.drop n) := by
  unfold cutS
  rw [HT.sIx_none, HT.sIx_nat, SX.S_len, Nat.min_eq_left h]
  show SX.S ((cs.drop n).take (cs.length - n)) = _
  rw [List.take_of_length_le (by rw [List.length_drop]; omega)]
def spNames : Sp := fun vs H Q _ => ∃ (pen L : Addr) (many : Int), vs = [.ref pen, .int many] ∧ PenAt H pen L ∧ 0 ≤ many ∧ many ≤ 26 ∧
  ∀ (d : Addr) (ss : List Str) (H' : Hp), (ss.length : Int) = many → (∀ s ∈ ss, isName s) → ss.Nodup → H d = none → H' d = some (.lst (ss.map V.str)) → PenAt H' pen L → Chg pen H H' → Q (.ref d) H'

/-! ### pens, numbers -/
def spPen (K : PySem.W.Frag) : Sp := fun vs H Q _ => ∃ (a : Addr) (ns : List Int), vs = [.ref a] ∧ SqL K H a (ns.map V.int) ∧ ns.length ≤ 63 ∧ ∀ (pen L : Addr) (H' : Hp), H pen = none → H L = none → PenAt H' pen L → Same H H' → Q (.ref pen) H'
theorem pure_pen {K : PySem.W.Frag} {w : World} : PureOk 1 (spPen K) (t_law_pen K w) 1 := by
  refine ⟨fun vs H Q E ⟨a, ns, e, _⟩ => by rw [e]; rfl, ?_⟩
  rintro vs H Q E ⟨a, ns, rfl, hS, hl, q⟩
  show t_law_pen K w _ [some (.ref a)] H
  unfold t_law_pen
  walk_at "go"
  refine g_slL hS fun p1 H1 n1 e1 s1 => ?_
  walk_at "go"
  refine g_listL (.of e1) fun p2 H2 n2 e2 s2 => ?_
  walk_at "go"
  intro p3 H3 n3 e3 s3
  have ec : cutV (ns.map V.int) none (some 63) = ns.map V.int := by
    unfold cutV
    rw [HT.sIx_none, show (63 : Int) = ((63 : Nat) : Int) from rfl, HT.sIx_nat, List.length_map, Nat.min_eq_right hl]
    show (ns.map V.int).take ns.length = _
    rw [List.take_of_length_le (by rw [List.length_map]; exact Nat.le_refl _)]
  rw [ec] at e2
  refine q p3 p2 H3 (s1.free (s2.free n3)) (s1.free n2) ⟨ns, 0, 0, e3, s3 _ _ e2, by decide, by decide, hl⟩ (s1.trans (s2.trans s3))

def spNumber : Sp := fun vs H Q _ => ∃ (pen L : Addr), vs = [.ref pen] ∧ PenAt H pen L ∧ ∀ (n : Int) (H' : Hp), n.natAbs < 10 ^ 60 → PenAt H' pen L → Chg pen H H' → Q (.int n) H'

/-! ### drawing parts: the state -/
/-- what may change while a part is drawn -/
structure Fix (pen left stock b : Addr) : Prop where
  p : b ≠ pen
  l : b ≠ left
  s : b ≠ stock
def Chg3 (pen left stock : Addr) (H H' : Hp) : Prop := ∀ b o, Fix pen left stock b → H b = some o → H' b = some o
structure RoomAt (H : Hp) (pen L left stock : Addr) (n : Int) (st : List Str) : Prop where
  pe : PenAt H pen L
  le : H left = some (.lst [.int n])
  sk : H stock = some (.lst (st.map V.str))
  lp : left ≠ pen
  lL : left ≠ L
  sp : stock ≠ pen
  sL : stock ≠ L
  ls : left ≠ stock
section
variable {H H' H1 : Hp} {pen L left stock b : Addr} {n : Int} {st : List Str}
theorem Chg3.refl : Chg3 pen left stock H H := fun _ _ _ e => e
theorem Chg3.trans (h : Chg3 pen left stock H H1) (h' : Chg3 pen left stock H1 H') : Chg3 pen left stock H H' := fun b o f e => h' b o f (h b o f e)
theorem Chg3.ofp (h : Chg pen H H') : Chg3 pen left stock H H' := fun b o f e => h b o f.p e
theorem Chg3.ofl (h : Chg left H H') : Chg3 pen left stock H H' := fun b o f e => h b o f.l e
theorem Chg3.same (h : Same H H') : Chg3 pen left stock H H' := fun b o _ e => h b o e
theorem RoomAt.new (r : RoomAt H pen L left stock n st) (hb : H b = none) : Fix pen left stock b :=
  ⟨fun e => (by obtain ⟨ns, a, x, hp, _⟩ := r.pe; rw [e, hp] at hb; cases hb), fun e => (by have := r.le; rw [← e, hb] at this; cases this), fun e => (by have := r.sk; rw [← e, hb] at this; cases this)⟩
theorem RoomAt.same (r : RoomAt H pen L left stock n st) (s : Same H H') : RoomAt H' pen L left stock n st :=
  ⟨r.pe.same s, s _ _ r.le, s _ _ r.sk, r.lp, r.lL, r.sp, r.sL, r.ls⟩
theorem RoomAt.draw (r : RoomAt H pen L left stock n st) (h : PenAt H' pen L) (c : Chg pen H H') : RoomAt H' pen L left stock n st :=
  ⟨h, c _ _ r.lp r.le, c _ _ r.sp r.sk, r.lp, r.lL, r.sp, r.sL, r.ls⟩
/-- another object changes -/
theorem RoomAt.chg (r : RoomAt H pen L left stock n st) (c : Chg b H H') (f : Fix pen left stock b) (fL : L ≠ b) : RoomAt H' pen L left stock n st :=
  ⟨r.pe.chg c f.p.symm fL, c _ _ f.l.symm r.le, c _ _ f.s.symm r.sk, r.lp, r.lL, r.sp, r.sL, r.ls⟩
theorem RoomAt.tk {m : Int} {su : List Str} (r : RoomAt H pen L left stock n st) (c : Chg3 pen left stock H H') (r' : RoomAt H' pen L left stock m su) : Tk H H' := fun b xs e => c b _
  ⟨fun z => (by obtain ⟨ns, a, x, hp, _⟩ := r.pe; rw [z, hp] at e; cases e), fun z => (by rw [z, r.le] at e; cases e), fun z => (by rw [z, r.sk] at e; cases e)⟩ e
end
/-- the functions that a part may name, with how many things they want -/
def WorldAt (H : Hp) (world : Addr) (W : List (Str × Nat)) : Prop := ∃ xs, H world = some (.lst xs) ∧ Tps H xs (W.map fun q => .tuple [.str q.1, .int q.2])
def WorldOk (W : List (Str × Nat)) : Prop := W.length ≤ 8 ∧ ∀ q ∈ W, isName q.1 ∧ q.2 ≤ 4
theorem WorldAt.mono {H H' : Hp} {world : Addr} {W : List (Str × Nat)} (h : WorldAt H world W) (k : Tk H H') (c : ∀ o, H world = some o → H' world = some o) : WorldAt H' world W := by
  obtain ⟨xs, e, t⟩ := h
  exact ⟨xs, c _ e, t.mono k⟩
/-- all that a part's drawing leans on -/
structure GenAt (H : Hp) (pen L world scope left stock : Addr) (W : List (Str × Nat)) (sc : List Str) (n : Int) (st : List Str) : Prop where
  r : RoomAt H pen L left stock n st
  w : WorldAt H world W
  gsc : H scope = some (.lst (sc.map V.str))
  fw : Fix pen left stock world
  fs : Fix pen left stock scope
section
variable {H H' H1 : Hp} {pen L world scope left stock b : Addr} {W : List (Str × Nat)} {sc : List Str} {n : Int} {st : List Str}
theorem GenAt.same (g : GenAt H pen L world scope left stock W sc n st) (s : Same H H') : GenAt H' pen L world scope left stock W sc n st :=
  ⟨g.r.same s, g.w.mono (Same.tk s) (fun o e => s _ _ e), s _ _ g.gsc, g.fw, g.fs⟩
/-- behind anything that keeps all but the three -/
theorem GenAt.go {m : Int} {su : List Str} (g : GenAt H pen L world scope left stock W sc n st) (r' : RoomAt H' pen L left stock m su) (c : Chg3 pen left stock H H') : GenAt H' pen L world scope left stock W sc m su :=
  ⟨r', g.w.mono (g.r.tk c r') (fun o e => c _ _ g.fw e), c _ _ g.fs g.gsc, g.fw, g.fs⟩
theorem GenAt.draw (g : GenAt H pen L world scope left stock W sc n st) (h : PenAt H' pen L) (c : Chg pen H H') : GenAt H' pen L world scope left stock W sc n st :=
  g.go (g.r.draw h c) (.ofp c)
end
/-- the names that stand and may come: all unlike, few -/
structure NamesOk (sc st : List Str) : Prop where
  nsc : ∀ x ∈ sc, isName x
  nst : ∀ x ∈ st, isName x
  nd : st.Nodup
  few : sc.length + st.length ≤ 60
/-- what comes of a drawn part -/
structure PartOut (fs sc : List Str) (d : Nat) (n : Int) (st : List Str) (p : Part) (n' : Int) (st' : List Str) : Prop where
  ok : p.ok fs sc
  deep : p.deep ≤ d
  size : (p.size : Int) + n' ≤ 1 + n
  left : 0 ≤ n'
  names : ∃ u, st = st' ++ u ∧ p.rowNames.Nodup ∧ ∀ x ∈ p.rowNames, x ∈ u
/-! ### a leaf -/
theorem canLay_name {x : Str} (h : isName x) : PyData.canLay0 (.str x) = true := by
  rw [PyData.canLay0]
  unfold PyData.strOk
  rw [Array.all_eq_true]
  intro i hi
  have hm : x.cps[i] ∈ x.cps.toList := by simp
  have := h.2.2 _ hm
  exact decide_eq_true (by omega)
theorem shaped_list {ds : List PyData} {k : Nat} (h1 : ∀ d ∈ ds, PyData.canLay0 d = true) (h2 : ∀ d ∈ ds, PyData.depth d ≤ k) (hk : k ≤ 63) : SeqAt.shaped (.list ds) = true := by
  have a1 : ∀ ds : List PyData, (∀ d ∈ ds, PyData.canLay0 d = true) → PyData.canLayAll0 ds = true := by
    intro ds h
    induction ds with
    | nil => rfl
    | cons d ds ih => rw [PyData.canLayAll0, h d (by simp), ih fun e he => h e (by simp [he])]; rfl
  have a2 : ∀ ds : List PyData, (∀ d ∈ ds, PyData.depth d ≤ k) → PyData.depthAll ds ≤ k := by
    intro ds h
    induction ds with
    | nil => rw [PyData.depthAll]; omega
    | cons d ds ih =>
      have i1 := ih fun e he => h e (by simp [he])
      have i2 := h d (by simp)
      rw [PyData.depthAll]
      omega
  have a3 := a2 ds h2
  unfold SeqAt.shaped
  rw [show PyData.canLay0 (.list ds) = true from by rw [PyData.canLay0]; exact a1 ds h1, Bool.true_and, decide_eq_true_eq, PyData.depth]
  omega
theorem shaped_names {ss : List Str} (h : ∀ x ∈ ss, isName x) : SeqAt.shaped (.list (ss.map PyData.str)) = true :=
  shaped_list (k := 0) (fun d hd => by obtain ⟨x, hx, rfl⟩ := List.mem_map.mp hd; exact canLay_name (h x hx)) (fun d hd => by obtain ⟨x, hx, rfl⟩ := List.mem_map.mp hd; rw [PyData.depth]; omega) (by decide)
theorem shaped_nil : SeqAt.shaped (.list []) = true := shaped_names (ss := []) (by simp)
theorem eqv_nil {ds : List PyData} : PyData.eqv (.list ds) (.list []) = ds.isEmpty := by
  cases ds <;> rfl
def spLeaf : Sp := fun vs H Q _ => ∃ (pen L world scope left stock : Addr) (W : List (Str × Nat)) (sc : List Str) (n : Int) (st : List Str) (want : Str), vs = [.ref pen, .ref world, .ref scope, .str want] ∧
  GenAt H pen L world scope left stock W sc n st ∧ WorldOk W ∧ NamesOk sc st ∧ 0 ≤ n ∧
  ∀ (v : V) (p : Part) (H' : Hp), Tp H' v p.data → GenAt H' pen L world scope left stock W sc n st → PartOut (W.map (·.1)) sc 1 n st p n st → Chg3 pen left stock H H' → Q v H'
theorem tp_num {H : Hp} {a : Addr} {n : Int} (h : H a = some (.tup [.str "number", .int n])) : Tp H (.ref a) (Part.num n).data := .tup h (.cons (.str _) (.one (.int n)))
theorem tp_name {H : Hp} {a : Addr} {x : Str} (h : H a = some (.tup [.str "name", .str x])) : Tp H (.ref a) (Part.name x).data := .tup h (.cons (.str _) (.one (.str x)))
theorem tp_fn {H : Hp} {a : Addr} {x : Str} (h : H a = some (.tup [.str "fun", .str x])) : Tp H (.ref a) (Part.fn x).data := .tup h (.cons (.str _) (.one (.str x)))

/-! ### names that are used up -/
def Used (st st' A : List Str) : Prop := ∃ u, st = st' ++ u ∧ A.Nodup ∧ ∀ x ∈ A, x ∈ u
section
variable {st st1 st2 A B : List Str}
theorem Used.refl : Used st st [] := ⟨[], by simp, List.nodup_nil, by simp⟩
theorem Used.app (h : Used st st1 A) (h2 : Used st1 st2 B) (nd : st.Nodup) : Used st st2 (A ++ B) := by
  obtain ⟨u, rfl, n1, s1⟩ := h
  obtain ⟨v, rfl, n2, s2⟩ := h2
  refine ⟨v ++ u, by simp, List.nodup_append.mpr ⟨n1, n2, fun a ha b hb e => ?_⟩, fun x hx => ?_⟩
  · subst e
    have h1 := s1 _ ha
    have h2 := s2 _ hb
    exact (List.nodup_append.mp nd).2.2 a (by simp [h2]) a h1 rfl
  · rcases List.mem_append.mp hx with h | h
    · exact List.mem_append.mpr (.inr (s1 x h))
    · exact List.mem_append.mpr (.inl (s2 x h))
theorem Used.left (h : Used st st1 A) : Used st st1 [] := by
  obtain ⟨u, e, _, _⟩ := h
  exact ⟨u, e, List.nodup_nil, by simp⟩
/-- the later ones are not used -/
theorem Used.fst (h : Used st st1 A) (h2 : Used st1 st2 B) : Used st st2 A := by
  obtain ⟨u, rfl, n1, s1⟩ := h
  obtain ⟨v, rfl, n2, s2⟩ := h2
  exact ⟨v ++ u, by simp, n1, fun x hx => List.mem_append.mpr (.inr (s1 x hx))⟩
theorem Used.snd (h : Used st st1 A) (h2 : Used st1 st2 B) : Used st st2 B := by
  obtain ⟨u, rfl, n1, s1⟩ := h
  obtain ⟨v, rfl, n2, s2⟩ := h2
  exact ⟨v ++ u, by simp, n2, fun x hx => List.mem_append.mpr (.inl (s2 x hx))⟩
theorem Used.len (h : Used st st1 A) : st1.length ≤ st.length := by
  obtain ⟨u, rfl, _, _⟩ := h
  rw [List.length_append]
  omega
theorem NamesOk.go {sc : List Str} (n : NamesOk sc st) (h : Used st st1 A) : NamesOk sc st1 := by
  obtain ⟨u, rfl, _, _⟩ := h
  exact ⟨n.nsc, fun x hx => n.nst x (List.mem_append.mpr (.inl hx)), (List.nodup_append.mp n.nd).1, by have := n.few; rw [List.length_append] at this; omega⟩
end
/-! ### room -/
def RoomL (H : Hp) (room left stock : Addr) (D : Int) : Prop := H room = some (.lst [.int D, .ref left, .ref stock])
def spFits : Sp := fun vs H Q _ => ∃ (pen L room left stock : Addr) (D n many : Int) (st : List Str), vs = [.ref room, .int many] ∧ RoomAt H pen L left stock n st ∧ RoomL H room left stock D ∧
  (n < many → Q (.bl false) H) ∧ (many ≤ n → ∀ H', RoomAt H' pen L left stock (n - many) st → Chg left H H' → Q (.bl true) H')
/-! ### parts, calls, lets: what they lean on, what they tell -/
structure PartPre (H : Hp) (pen L world scope room left stock : Addr) (W : List (Str × Nat)) (sc : List Str) (D n : Int) (st : List Str) (want : Str) : Prop where
  g : GenAt H pen L world scope left stock W sc n st
  w : WorldOk W
  nm : NamesOk sc st
  n0 : 0 ≤ n
  rm : RoomL H room left stock D
  fr : Fix pen left stock room
  d0 : 0 ≤ D
  wt : want ∈ [("number" : Str), "pair", "any"]
def PartPost (H : Hp) (pen L world scope left stock : Addr) (W : List (Str × Nat)) (sc : List Str) (d : Nat) (n : Int) (st : List Str) (Q : VK) : Prop :=
  ∀ (v : V) (p : Part) (n' : Int) (st' : List Str) (H' : Hp), Tp H' v p.data → GenAt H' pen L world scope left stock W sc n' st' → PartOut (W.map (·.1)) sc d n st p n' st' → Chg3 pen left stock H H' → Q v H'
def spPart (m : Nat) : Sp := fun vs H Q _ => ∃ (pen L world scope room left stock : Addr) (W : List (Str × Nat)) (sc : List Str) (D n : Int) (st : List Str) (want : Str), vs = [.ref pen, .ref world, .ref scope, .ref room, .str want] ∧
  PartPre H pen L world scope room left stock W sc D n st want ∧ D.toNat < m ∧ PartPost H pen L world scope left stock W sc (D.toNat + 1) n st Q
/-- a let's, its room one less deep -/
def spLet (m : Nat) : Sp := fun vs H Q _ => ∃ (pen L world scope room left stock : Addr) (W : List (Str × Nat)) (sc : List Str) (D n : Int) (st : List Str) (want : Str), vs = [.ref pen, .ref world, .ref scope, .ref room, .str want] ∧
  PartPre H pen L world scope room left stock W sc D n st want ∧ D.toNat < m ∧ PartPost H pen L world scope left stock W sc (D.toNat + 2) n st Q
def spCallP (m : Nat) : Sp := fun vs H Q _ => ∃ (pen L world scope room left stock : Addr) (W : List (Str × Nat)) (sc : List Str) (D n : Int) (st : List Str) (want : Str), vs = [.ref pen, .ref world, .ref scope, .ref room, .str want] ∧
  PartPre H pen L world scope room left stock W sc D n st want ∧ D.toNat < m ∧ 5 ≤ D ∧ W ≠ [] ∧ PartPost H pen L world scope left stock W sc (D.toNat + 2) n st Q
theorem PartOut.leaf {fs sc : List Str} {d : Nat} {n n1 : Int} {st st' : List Str} {p : Part} (h : PartOut fs sc 1 n st p n1 st') (hd : 1 ≤ d) : PartOut fs sc d n st p n1 st' := ⟨h.ok, Nat.le_trans h.deep hd, h.size, h.left, h.names⟩
section
variable {H H' : Hp} {pen L world scope room left stock : Addr} {W : List (Str × Nat)} {sc : List Str} {D n : Int} {st : List Str} {want : Str}
theorem PartPre.go {n' : Int} {st' A : List Str} (h : PartPre H pen L world scope room left stock W sc D n st want) (g : GenAt H' pen L world scope left stock W sc n' st') (c : Chg3 pen left stock H H') (u : Used st st' A) (h0 : 0 ≤ n') :
    PartPre H' pen L world scope room left stock W sc D n' st' want := ⟨g, h.w, h.nm.go u, h0, c _ _ h.fr h.rm, h.fr, h.d0, h.wt⟩
end

section
variable {H H' : Hp} {pen L world scope left stock d : Addr} {W : List (Str × Nat)} {sc : List Str} {n : Int} {st : List Str}
/-- another list changes -/
theorem GenAt.oth {ys : List V} (g : GenAt H pen L world scope left stock W sc n st) (c : Chg d H H') (f : Fix pen left stock d) (fL : L ≠ d) (fw : world ≠ d) (fs : scope ≠ d) (hl : H d = some (.lst ys)) : GenAt H' pen L world scope left stock W sc n st :=
  ⟨g.r.chg c f fL, g.w.mono (c.tkl hl) (fun o e => c _ _ fw e), c _ _ fs g.gsc, g.fw, g.fs⟩
theorem GenAt.free (g : GenAt H pen L world scope left stock W sc n st) (h : H d = none) : Fix pen left stock d ∧ L ≠ d ∧ world ≠ d ∧ scope ≠ d := by
  obtain ⟨xs, hw, _⟩ := g.w
  obtain ⟨ns, a, r, hp, hL, _⟩ := g.r.pe
  exact ⟨g.r.new h, ne_of_none hL h, ne_of_none hw h, ne_of_none g.gsc h⟩
end

/-! ### a part by its word -/
def kinds7 : List Str := ["op", "when", "side", "let", "call", "leaf", "pair"]
def words0 : List (Key × V) := mergeK [] [(.inr "number", .str "op op op op op op when when side let call call call call leaf leaf")]
def words1 : List (Key × V) := putK words0 (.inr "pair") (.str "pair pair pair pair when when side side let let call call call op leaf pair")
def words2 : List (Key × V) := putK words1 (.inr "any") (.str "op op pair pair pair when when side side let let call call call leaf leaf")
def wordsOf (x : Str) : Str := match valV words2 (Sum.inr x) with
  | some (.str s) => s
  | _ => ""
def kv4 : List (Key × V) := [(.inr "side", .int 1), (.inr "pair", .int 2), (.inr "when", .int 3), (.inr "op", .int 2)]

/-! ### a loop -/
theorem Part.size_pos : ∀ p : Part, 1 ≤ p.size
  | .num _ => Nat.le_refl _
  | .name _ => Nat.le_refl _
  | .fn _ => Nat.le_refl _
  | .one _ _ => Nat.le_add_right _ _
  | .two _ _ _ => Nat.le_add_right _ _
  | .whn _ _ _ => Nat.le_add_right _ _
  | .letp _ _ => Nat.le_add_right _ _
  | .shut _ => Nat.le_refl _
theorem cut_to {ss : List Str} (k : Nat) : cutV (ss.map V.str) none (some (k : Int)) = (ss.take k).map V.str := by
  unfold cutV
  rw [HT.sIx_none, HT.sIx_nat, List.length_map, Nat.sub_zero, List.drop_zero, ← List.map_take]
  by_cases h : k ≤ ss.length
  · rw [Nat.min_eq_left h]
  · rw [Nat.min_eq_right (by omega), List.take_of_length_le (Nat.le_refl _), List.take_of_length_le (by omega)]
structure LoopPre (H : Hp) (pen L world scope room left stock : Addr) (W : List (Str × Nat)) (me : Str) (sc : List Str) (n : Int) (st : List Str) : Prop where
  g : GenAt H pen L world scope left stock W sc n st
  w : WorldOk W
  nm : NamesOk sc st
  n0 : 0 ≤ n
  rm : ∃ D : Int, H room = some (.lst [.int D, .ref left, .ref stock])
  fr : Fix pen left stock room
  me : me ∈ W.map (·.1)
  sc0 : sc ≠ []
  sc4 : sc.length ≤ 4
def spLoop : Sp := fun vs H Q _ => ∃ (pen L world scope room left stock : Addr) (W : List (Str × Nat)) (me : Str) (sc : List Str) (n : Int) (st : List Str), vs = [.ref pen, .ref world, .str me, .ref scope, .ref room] ∧
  LoopPre H pen L world scope room left stock W me sc n st ∧
  ∀ (v : V) (p : Part) (n' : Int) (st' : List Str) (H' : Hp), Tp H' v p.data → GenAt H' pen L world scope left stock W sc n' st' → p.ok (W.map (·.1)) sc → p.deep ≤ 8 → (p.size : Int) + n' ≤ 16 + n → 0 ≤ n' → Used st st' p.rowNames → Chg3 pen left stock H H' → Q v H'

/-! ### a body -/
structure BodyAt (H : Hp) (pen L world scope stock : Addr) (W : List (Str × Nat)) (sc st : List Str) : Prop where
  pe : PenAt H pen L
  w : WorldAt H world W
  gsc : H scope = some (.lst (sc.map V.str))
  sk : H stock = some (.lst (st.map V.str))
  wp : world ≠ pen
  ws : world ≠ stock
  cp : scope ≠ pen
  cs : scope ≠ stock
  sp : stock ≠ pen
  sL : stock ≠ L
structure BodyOk (W : List (Str × Nat)) (me : Str) (sc st : List Str) : Prop where
  w : WorldOk W
  nm : NamesOk sc st
  me : me = "" ∨ me ∈ W.map (·.1)
  sc4 : sc.length ≤ 4
/-- all but the pen and the stock stay -/
def Chg2 (pen stock : Addr) (H H' : Hp) : Prop := ∀ b o, b ≠ pen → b ≠ stock → H b = some o → H' b = some o
section
variable {H H' H1 H2 : Hp} {pen L world scope stock l rm : Addr} {W : List (Str × Nat)} {me : Str} {sc st : List Str} {n D : Int}
theorem BodyAt.same (h : BodyAt H pen L world scope stock W sc st) (s : Same H H') : BodyAt H' pen L world scope stock W sc st :=
  ⟨h.pe.same s, h.w.mono (Same.tk s) (fun o e => s _ _ e), s _ _ h.gsc, s _ _ h.sk, h.wp, h.ws, h.cp, h.cs, h.sp, h.sL⟩
theorem PenAt.tk (h : PenAt H pen L) (c : Chg pen H H') : Tk H H' := by
  obtain ⟨ns, a, r, hp, _⟩ := h
  exact c.tkl hp
theorem BodyAt.draw (h : BodyAt H pen L world scope stock W sc st) (p : PenAt H' pen L) (c : Chg pen H H') : BodyAt H' pen L world scope stock W sc st :=
  ⟨p, h.w.mono (h.pe.tk c) (fun o e => c _ _ h.wp e), c _ _ h.cp h.gsc, c _ _ h.sp h.sk, h.wp, h.ws, h.cp, h.cs, h.sp, h.sL⟩
end
def spBody : Sp := fun vs H Q _ => ∃ (pen L world scope stock : Addr) (W : List (Str × Nat)) (me : Str) (sc st : List Str), vs = [.ref pen, .ref world, .str me, .ref scope, .ref stock] ∧ BodyAt H pen L world scope stock W sc st ∧ BodyOk W me sc st ∧
  ∀ (v : V) (p : Part) (H' : Hp), Tp H' v p.data → PenAt H' pen L → p.ok (W.map (·.1)) sc → p.deep ≤ 12 → p.size ≤ 60 → p.rowNames.Nodup → (∀ x ∈ p.rowNames, x ∈ st) → Chg2 pen stock H H' → Q v H'

/-! ### a program -/
section
variable {K : PySem.W.Frag} {σ : L2.St} {H : Hp} {Q : L2.St → Hp → Prop} {a : Addr} {x y z : V} {i j k : Nat}
theorem g_un2 (h : H a = some (.tup [x, y])) (q : Q ((σ.set i (some x)).set j (some y)) H) : gTup K 2 (gCons (gName i) (gCons (gName j) gNil)) (.ref a) σ H Q :=
  ⟨a, _, rfl, .of h, rfl, x, _, rfl, y, _, rfl, rfl, q⟩
theorem g_un3 (h : H a = some (.tup [x, y, z])) (q : Q (((σ.set i (some x)).set j (some y)).set k (some z)) H) : gTup K 3 (gCons (gName i) (gCons (gName j) (gCons (gName k) gNil))) (.ref a) σ H Q :=
  ⟨a, _, rfl, .of h, rfl, x, _, rfl, y, _, rfl, z, _, rfl, rfl, q⟩
theorem Tp.tup_inv {v : V} {ds : List PyData} (h : Tp H v (.tuple ds)) : ∃ a xs, v = .ref a ∧ H a = some (.tup xs) ∧ Tps H xs ds := by
  cases h with
  | tup e r => exact ⟨_, _, rfl, e, r⟩
theorem Tps.cons_inv {vs : List V} {d : PyData} {ds : List PyData} (h : Tps H vs (d :: ds)) : ∃ v us, vs = v :: us ∧ Tp H v d ∧ Tps H us ds := by
  cases h with
  | cons a b => exact ⟨_, _, rfl, a, b⟩
theorem Tps.nil_inv {vs : List V} (h : Tps H vs []) : vs = [] := by
  cases h
  rfl
theorem Tp.str_inv {v : V} {s : Str} (h : Tp H v (.str s)) : v = .str s := by
  cases h
  rfl
theorem Tp.int_inv {v : V} {n : Int} (h : Tp H v (.int n)) : v = .int n := by
  cases h
  rfl
/-- a tuple of two -/
theorem Tp.two {v : V} {d e : PyData} (h : Tp H v (.tuple [d, e])) : ∃ a x y, v = .ref a ∧ H a = some (.tup [x, y]) ∧ Tp H x d ∧ Tp H y e := by
  obtain ⟨a, xs, rfl, h1, h2⟩ := h.tup_inv
  obtain ⟨x, us, rfl, tx, h3⟩ := h2.cons_inv
  obtain ⟨y, us, rfl, ty, h4⟩ := h3.cons_inv
  rw [h4.nil_inv] at h1
  exact ⟨a, x, y, rfl, h1, tx, ty⟩
theorem Tp.three {v : V} {d e f : PyData} (h : Tp H v (.tuple [d, e, f])) : ∃ a x y z, v = .ref a ∧ H a = some (.tup [x, y, z]) ∧ Tp H x d ∧ Tp H y e ∧ Tp H z f := by
  obtain ⟨a, xs, rfl, h1, h2⟩ := h.tup_inv
  obtain ⟨x, us, rfl, tx, h3⟩ := h2.cons_inv
  obtain ⟨y, us, rfl, ty, h4⟩ := h3.cons_inv
  obtain ⟨z, us, rfl, tz, h5⟩ := h4.cons_inv
  rw [h5.nil_inv] at h1
  exact ⟨a, x, y, z, rfl, h1, tx, ty, tz⟩
end
structure Fn1 where
  name : Str
  things : List Str
  body : Part
def Fn1.data (f : Fn1) : PyData := .tuple [.str f.name, .tuple (f.things.map .str), f.body.data]
structure Prog where
  fs : List Fn1
  asked : Part
def Prog.data (P : Prog) : PyData := .tuple [.tuple (P.fs.map Fn1.data), P.asked.data]
def Prog.names (P : Prog) : List Str := P.fs.map (·.name)
structure Part.fine (fs sc : List Str) (p : Part) : Prop where
  ok : p.ok fs sc
  deep : p.deep ≤ 12
  size : p.size ≤ 60
  nd : p.rowNames.Nodup
  un : ∀ x ∈ p.rowNames, isName x ∧ x ∉ sc
structure Fn1.fine (fs : List Str) (f : Fn1) : Prop where
  nm : isName f.name
  few : f.things.length ≤ 4
  nd : f.things.Nodup
  th : ∀ x ∈ f.things, isName x
  body : f.body.fine fs f.things
structure Prog.fine (P : Prog) : Prop where
  few : P.fs.length ≤ 8
  nd : P.names.Nodup
  fs : ∀ f ∈ P.fs, f.fine P.names
  asked : P.asked.fine P.names []
def spProgram : Sp := fun vs H Q _ => ∃ (pen L : Addr), vs = [.ref pen] ∧ PenAt H pen L ∧
  ∀ (v : V) (P : Prog) (H' : Hp), Tp H' v P.data → P.fine → PenAt H' pen L → Chg pen H H' → Q v H'
/-! ### parts within parts -/
section
variable {K : PySem.W.Frag} {w : World} {σ : L2.St} {H : Hp} {Q : VK} {D : Ends} {c : TT} {tb : TS} {d : Addr} {z : Str} {kvs : List (Str × V)}
theorem while_any (Pv : Nat → L2.St → Hp → Prop) (m : Nat) (h0 : Pv m σ H)
    (hs : ∀ m σ H, Pv m σ H → c σ H fun b H1 => if b = true then ∃ N : L2.St → Hp → Prop, (∀ σ' H', N σ' H' → ∃ m', m' < m ∧ Pv m' σ' H') ∧ tb { D with nx := N, ct := N, bk := D.nx } σ H1 else D.nx σ H1) : tWhile c tb D σ H :=
  ⟨Pv, ⟨m, h0⟩, hs⟩
/-- a turn of a while -/
theorem g_turn {Pv : Nat → L2.St → Hp → Prop} {m : Nat} (h : tb { D with nx := fun σ' H' => ∃ m', m' < m ∧ Pv m' σ' H', ct := fun σ' H' => ∃ m', m' < m ∧ Pv m' σ' H', bk := D.nx } σ H) :
    ∃ N : L2.St → Hp → Prop, (∀ σ' H', N σ' H' → ∃ m', m' < m ∧ Pv m' σ' H') ∧ tb { D with nx := N, ct := N, bk := D.nx } σ H := ⟨_, fun _ _ h => h, h⟩
theorem g_inK (T : KTab K w d kvs) {r : Bool} (e : (kvs.find? fun q => decide (q.1 = z)).isSome = r) (q : Q (.bl r) H) : rInG K w false (.str z) (.ref d) H Q :=
  .inr (.inr (.inr ⟨z, d, _, rfl, rfl, T z, by subst e; simpa using q⟩))
theorem Tps.snoc_inv : ∀ {ds : List PyData} {e : PyData} {us : List V}, Tps H us (ds ++ [e]) → ∃ vs v, us = vs ++ [v] ∧ Tps H vs ds ∧ Tp H v e
  | [], e, us, h => by
    obtain ⟨v, r, rfl, tv, tr⟩ := h.cons_inv
    rw [tr.nil_inv]
    exact ⟨[], v, rfl, .nil, tv⟩
  | d :: ds, e, us, h => by
    obtain ⟨v, r, rfl, tv, tr⟩ := Tps.cons_inv (ds := ds ++ [e]) h
    obtain ⟨vs, x, rfl, t1, t2⟩ := Tps.snoc_inv tr
    exact ⟨v :: vs, x, rfl, .cons tv t1, t2⟩
/-- the list at l is unlike nothing, or like -/
theorem g_neLL {a b : Addr} {xs ys : List V} {ds es : List PyData} (ha : H a = some (.lst xs)) (hb : H b = some (.lst ys)) (ta : Tps H xs ds) (tb : Tps H ys es) (sa : SeqAt.shaped (.list ds) = true) (sb : SeqAt.shaped (.list es) = true)
    (q : Q (.bl (!PyData.eqv (.list ds) (.list es))) H) : rNeG K (.ref a) (.ref b) H Q := g_neD (.lst (.of ha) (Tps.dp ta)) (.lst (.of hb) (Tps.dp tb)) sa sb q
end
mutual
/-- all parts of a part, each ahead of what it holds -/
def Part.all : Part → List Part
  | .num n => [.num n]
  | .name x => [.name x]
  | .fn f => [.fn f]
  | .one k a => .one k a :: a.all
  | .two k a b => .two k a b :: (a.all ++ b.all)
  | .whn a b c => .whn a b c :: (a.all ++ (b.all ++ c.all))
  | .letp r a => .letp r a :: (r.all ++ a.all)
  | .shut a => [.shut a]
def Rows.all : Rows → List Part
  | .nil => []
  | .cons _ a r => a.all ++ r.all
end
theorem Rows.all_flat : ∀ r : Rows, r.all = r.parts.flatMap Part.all
  | .nil => rfl
  | .cons x a r => by
    show a.all ++ r.all = (a :: r.parts).flatMap Part.all
    rw [List.flatMap_cons, ← Rows.all_flat r]
theorem Part.all_kids (p : Part) : p.all = p :: p.kids.flatMap Part.all := by
  cases p with
  | letp r a =>
    show _ :: (r.all ++ a.all) = _ :: (r.parts ++ [a]).flatMap Part.all
    rw [Rows.all_flat, List.flatMap_append]
    simp
  | _ => simp [Part.all, Part.kids]
/-- sums, greatest depths -/
def sz : List Part → Nat
  | [] => 0
  | p :: r => p.size + sz r
def mxd : List Part → Nat
  | [] => 0
  | p :: r => max p.deep (mxd r)
theorem sz_app : ∀ a b : List Part, sz (a ++ b) = sz a + sz b
  | [], b => by show sz b = 0 + sz b; omega
  | p :: a, b => by
    show p.size + sz (a ++ b) = p.size + sz a + sz b
    rw [sz_app a b]
    omega
theorem mxd_app : ∀ a b : List Part, mxd (a ++ b) = max (mxd a) (mxd b)
  | [], b => by show mxd b = max 0 (mxd b); omega
  | p :: a, b => by
    show max p.deep (mxd (a ++ b)) = max (max p.deep (mxd a)) (mxd b)
    rw [mxd_app a b]
    omega
theorem sz_len : ∀ a : List Part, a.length ≤ sz a
  | [] => Nat.le_refl _
  | p :: a => by
    have := sz_len a
    have := p.size_pos
    show a.length + 1 ≤ p.size + sz a
    omega
theorem Rows.sz : ∀ r : Rows, r.size = Lz.sz r.parts
  | .nil => rfl
  | .cons x a r => by
    show a.size + r.size = a.size + Lz.sz r.parts
    rw [Rows.sz r]
theorem Rows.mxd : ∀ r : Rows, r.deep = Lz.mxd r.parts
  | .nil => rfl
  | .cons x a r => by
    show max a.deep r.deep = max a.deep (Lz.mxd r.parts)
    rw [Rows.mxd r]
theorem Part.sz_kids (p : Part) : p.size = 1 + sz p.kids := by
  cases p with
  | letp r a =>
    show 1 + (r.size + a.size) = 1 + sz (r.parts ++ [a])
    rw [sz_app, Rows.sz]
    rfl
  | _ => rfl
theorem Part.mxd_kids (p : Part) : p.deep = 1 + mxd p.kids := by
  cases p with
  | letp r a =>
    show 1 + max r.deep a.deep = 1 + mxd (r.parts ++ [a])
    rw [mxd_app, Rows.mxd]
    show _ = 1 + max _ (max a.deep 0)
    omega
  | one k a => show 1 + a.deep = 1 + max a.deep 0; omega
  | two k a b => show 1 + max a.deep b.deep = 1 + max a.deep (max b.deep 0); omega
  | whn a b c => show 1 + max a.deep (max b.deep c.deep) = 1 + max a.deep (max b.deep (max c.deep 0)); omega
  | _ => rfl
theorem mxd_mem {q : Part} : ∀ {a : List Part}, q ∈ a → q.deep ≤ mxd a
  | p :: a, h => by
    show q.deep ≤ max p.deep (mxd a)
    rcases List.mem_cons.mp h with rfl | h
    · omega
    · have := mxd_mem h
      omega
theorem mxd_le {n : Nat} : ∀ {a : List Part}, (∀ q ∈ a, q.deep ≤ n) → mxd a ≤ n
  | [], _ => Nat.zero_le _
  | p :: a, h => by
    have h1 := h p (by simp)
    have h2 := mxd_le fun q hq => h q (List.mem_cons_of_mem _ hq)
    show max p.deep (mxd a) ≤ n
    omega
/-! what stands in a program -/
def Part.good (p : Part) : Prop := (∃ fs sc, p.ok fs sc) ∧ p.deep ≤ 12
theorem Rows.ok_parts {fs sc : List Str} : ∀ {r : Rows}, r.ok fs sc → ∀ q ∈ r.parts, q.ok fs sc
  | .cons x a r, h, q, hq => by
    rcases List.mem_cons.mp hq with rfl | hq
    · exact h.1
    · exact Rows.ok_parts h.2 q hq
theorem Part.ok_kids {fs sc : List Str} {p : Part} (h : p.ok fs sc) : ∃ sc', ∀ q ∈ p.kids, q.ok fs sc' := by
  cases p with
  | num n => exact ⟨sc, by simp [Part.kids]⟩
  | name x => exact ⟨sc, by simp [Part.kids]⟩
  | fn f => exact ⟨sc, by simp [Part.kids]⟩
  | one k a => exact ⟨sc, fun q hq => by rw [List.mem_singleton.mp hq]; exact h⟩
  | two k a b =>
    refine ⟨sc, fun q hq => ?_⟩
    simp only [Part.kids, List.mem_cons, List.not_mem_nil, or_false] at hq
    rcases hq with rfl | rfl
    · exact h.1
    · exact h.2
  | whn a b c =>
    refine ⟨sc, fun q hq => ?_⟩
    simp only [Part.kids, List.mem_cons, List.not_mem_nil, or_false] at hq
    rcases hq with rfl | rfl | rfl
    · exact h.1
    · exact h.2.1
    · exact h.2.2
  | letp r a =>
    obtain ⟨_, _, _, h1, h2⟩ := h
    refine ⟨sc ++ r.names, fun q hq => ?_⟩
    rcases List.mem_append.mp hq with hq | hq
    · exact Rows.ok_parts h1 q hq
    · rw [List.mem_singleton.mp hq]
      exact h2
  | shut a => exact h.elim
theorem Part.good.kids {p : Part} (h : p.good) : ∀ q ∈ p.kids, q.good := by
  obtain ⟨⟨fs, sc, h1⟩, h2⟩ := h
  obtain ⟨sc', h3⟩ := Part.ok_kids h1
  have h4 := p.mxd_kids
  exact fun q hq => ⟨⟨fs, sc', h3 q hq⟩, by have := mxd_mem hq; omega⟩
theorem lay_word1 : ∀ k : K1, PyData.strOk k.word = true := by intro k; cases k <;> decide +kernel
theorem lay_word2 : ∀ k : K2, PyData.strOk k.word = true := by intro k; cases k <;> decide +kernel
mutual
theorem Part.lay {fs : List Str} : ∀ {p : Part} {sc : List Str}, p.ok fs sc → PyData.canLay0 p.data = true ∧ PyData.depth p.data ≤ 3 * p.deep
  | .num n, sc, h => by simp [Part.data, PyData.canLay0, PyData.canLayAll0, PyData.depth, PyData.depthAll, Part.deep]; decide +kernel
  | .name x, sc, h => by
    have := canLay_name h.2
    rw [PyData.canLay0] at this
    simp [Part.data, PyData.canLay0, PyData.canLayAll0, PyData.depth, PyData.depthAll, Part.deep, this]; decide +kernel
  | .fn x, sc, h => by
    have := canLay_name h.2
    rw [PyData.canLay0] at this
    simp [Part.data, PyData.canLay0, PyData.canLayAll0, PyData.depth, PyData.depthAll, Part.deep, this]; decide +kernel
  | .one k a, sc, h => by
    obtain ⟨h1, h2⟩ := Part.lay (p := a) h
    have hw := lay_word1 k
    simp only [Part.data, PyData.canLay0, PyData.canLayAll0, PyData.depth, PyData.depthAll, Part.deep, h1, hw, Bool.and_true, Bool.true_and]
    exact ⟨trivial, by omega⟩
  | .two k a b, sc, h => by
    obtain ⟨h1, h2⟩ := Part.lay (p := a) h.1
    obtain ⟨h3, h4⟩ := Part.lay (p := b) h.2
    have hw := lay_word2 k
    simp only [Part.data, PyData.canLay0, PyData.canLayAll0, PyData.depth, PyData.depthAll, Part.deep, h1, h3, hw, Bool.and_true, Bool.true_and]
    exact ⟨trivial, by omega⟩
  | .whn a b c, sc, h => by
    obtain ⟨h1, h2⟩ := Part.lay (p := a) h.1
    obtain ⟨h3, h4⟩ := Part.lay (p := b) h.2.1
    obtain ⟨h5, h6⟩ := Part.lay (p := c) h.2.2
    have hw : PyData.strOk "when" = true := by decide +kernel
    simp only [Part.data, PyData.canLay0, PyData.canLayAll0, PyData.depth, PyData.depthAll, Part.deep, h1, h3, h5, hw, Bool.and_true, Bool.true_and]
    exact ⟨trivial, by omega⟩
  | .letp r a, sc, h => by
    obtain ⟨h1, h2⟩ := Part.lay (p := a) h.2.2.2.2
    obtain ⟨h3, h4⟩ := Rows.lay (r := r) h.2.2.2.1 h.2.2.1
    have hw : PyData.strOk "let" = true := by decide +kernel
    simp only [Part.data, PyData.canLay0, PyData.canLayAll0, PyData.depth, PyData.depthAll, Part.deep, h1, h3, hw, Bool.and_true, Bool.true_and]
    exact ⟨trivial, by omega⟩
  | .shut a, sc, h => h.elim
theorem Rows.lay {fs : List Str} : ∀ {r : Rows} {sc : List Str}, r.ok fs sc → (∀ x ∈ r.names, isName x) → PyData.canLayAll0 r.datas = true ∧ PyData.depthAll r.datas ≤ 3 * r.deep + 1
  | .nil, sc, h, _ => by simp [Rows.datas, PyData.canLayAll0, PyData.depthAll]
  | .cons x a r, sc, h, hn => by
    obtain ⟨h1, h2⟩ := Part.lay (p := a) h.1
    obtain ⟨h3, h4⟩ := Rows.lay (r := r) h.2 fun y hy => hn y (List.mem_cons_of_mem _ hy)
    have hw := canLay_name (hn x (by show x ∈ x :: r.names; simp))
    rw [PyData.canLay0] at hw
    simp only [Rows.datas, PyData.canLay0, PyData.canLayAll0, PyData.depth, PyData.depthAll, Rows.deep, h1, h3, hw, Bool.and_true, Bool.true_and]
    exact ⟨trivial, by omega⟩
end
theorem Part.good.lay {p : Part} (h : p.good) : PyData.canLay0 p.data = true ∧ PyData.depth p.data ≤ 36 := by
  obtain ⟨⟨fs, sc, h1⟩, h2⟩ := h
  have := Part.lay h1
  exact ⟨this.1, by omega⟩
theorem shaped_parts {ps : List Part} (h : ∀ p ∈ ps, p.good) : SeqAt.shaped (.list (ps.map Part.data)) = true :=
  shaped_list (k := 36) (fun d hd => by obtain ⟨p, hp, rfl⟩ := List.mem_map.mp hd; exact (h p hp).lay.1) (fun d hd => by obtain ⟨p, hp, rfl⟩ := List.mem_map.mp hd; exact (h p hp).lay.2) (by decide)
/-- the rows' values -/
theorem Rows.get : ∀ {r : Rows} {i : Nat} {d : PyData}, r.datas[i]? = some d → ∃ x p, r.names[i]? = some x ∧ r.parts[i]? = some p ∧ d = .tuple [.str x, p.data]
  | .nil, i, d, h => by simp [Rows.datas] at h
  | .cons x a r, 0, d, h => by
    have h1 : some (PyData.tuple [.str x, a.data]) = some d := h
    cases h1
    exact ⟨x, a, rfl, rfl, rfl⟩
  | .cons x a r, i + 1, d, h => Rows.get (r := r) h
theorem Rows.len : ∀ r : Rows, r.datas.length = r.parts.length
  | .nil => rfl
  | .cons x a r => congrArg (· + 1) (Rows.len r)
def spKids : Sp := fun vs H Q _ => ∃ (v : V) (p : Part), vs = [v] ∧ Tp H v p.data ∧ p.good ∧ p.size ≤ 60 ∧ ∀ (l : Addr) (us : List V) (H' : Hp), H l = none → H' l = some (.lst us) → Tps H' us (p.kids.map Part.data) → Same H H' → Q (.ref l) H'
theorem not_whole {n d : Nat} {o : Option Int} (h : 1 ≤ n) : ¬ (HT.sIx n 0 (some 1) = 0 ∧ HT.sIx n d o = n) := by
  rintro ⟨h1, _⟩
  rw [show (1 : Int) = ((1 : Nat) : Int) from rfl, HT.sIx_nat] at h1
  omega
def PARTSkvs : List (Str × V) := [("give", .int 2), ("plus", .int 2), ("less", .int 2), ("times", .int 2), ("below", .int 2), ("when", .int 3), ("pair", .int 2), ("left", .int 1), ("right", .int 1)]

/-! ### sums -/
def allGood (ps : List Part) : Prop := ∀ p ∈ ps, p.good
theorem sz_mem {q : Part} : ∀ {a : List Part}, q ∈ a → q.size ≤ sz a
  | p :: a, h => by
    show q.size ≤ p.size + sz a
    rcases List.mem_cons.mp h with rfl | h
    · omega
    · have := sz_mem h
      omega
theorem sz_rev : ∀ a : List Part, sz a.reverse = sz a
  | [] => rfl
  | p :: a => by
    rw [List.reverse_cons, sz_app, sz_rev a]
    show sz a + (p.size + 0) = p.size + sz a
    omega
/-! ### how deep -/
def dsz : List (Part × Nat) → Nat
  | [] => 0
  | (p, _) :: r => p.size + dsz r
def dmx : List (Part × Nat) → Nat
  | [] => 0
  | (p, d) :: r => max (d + p.deep) (dmx r)
theorem dsz_app : ∀ a b : List (Part × Nat), dsz (a ++ b) = dsz a + dsz b
  | [], b => by show dsz b = 0 + dsz b; omega
  | (p, d) :: a, b => by
    show p.size + dsz (a ++ b) = p.size + dsz a + dsz b
    rw [dsz_app a b]
    omega
theorem dsz_map (d : Nat) : ∀ a : List Part, dsz (a.map fun p => (p, d)) = sz a
  | [] => rfl
  | p :: a => by
    show p.size + dsz _ = p.size + sz a
    rw [dsz_map d a]
def pd (q : Part × Nat) : PyData := .tuple [q.1.data, .int q.2]
/-! ### kids -/
theorem pure_within {K : PySem.W.Frag} {w : World} (T : KTab K w (He.ga K "PARTS") PARTSkvs) : PureOk 1 spKids (t_within K w) 3 := by
  refine ⟨fun vs H Q E ⟨_, _, e, _⟩ => by rw [e]; rfl, ?_⟩
  rintro vs H Q E ⟨v, p, rfl, t, hg, hz, q⟩
  show t_within K w _ [some v, none, none] H
  unfold t_within
  walk_at "go"
  have leaf : ∀ {x : Str} {y : V} {a : Addr} {Q' : VK}, H a = some (.tup [.str x, y]) → Q' (.str x) H → rIxG K w (.ref a) (.int 0) H Q' := fun e q => g_ixT (.of e) (atI_of (by decide) rfl) q
  cases p with
  | shut a => exact hg.1.elim fun _ h => h.elim fun _ h => h.elim
  | num n =>
    obtain ⟨a, x, y, rfl, ea, t1, t2⟩ := t.two
    rw [t1.str_inv] at ea
    refine g_ixT (.of ea) (atI_of (by decide) rfl) (g_inK T (r := false) (by decide +kernel) ?_)
    walk_at "go"
    refine g_F rfl ?_
    walk_at "go"
    refine g_ixT (.of ea) (atI_of (by decide) rfl) ?_
    walk_at "go"
    refine g_F (by decide +kernel) ?_
    walk_at "go"
    intro l H1 nl el s1
    exact q l [] H1 nl el .nil s1
  | name n =>
    obtain ⟨a, x, y, rfl, ea, t1, t2⟩ := t.two
    rw [t1.str_inv] at ea
    refine g_ixT (.of ea) (atI_of (by decide) rfl) (g_inK T (r := false) (by decide +kernel) ?_)
    walk_at "go"
    refine g_F rfl ?_
    walk_at "go"
    refine g_ixT (.of ea) (atI_of (by decide) rfl) ?_
    walk_at "go"
    refine g_F (by decide +kernel) ?_
    walk_at "go"
    intro l H1 nl el s1
    exact q l [] H1 nl el .nil s1
  | fn n =>
    obtain ⟨a, x, y, rfl, ea, t1, t2⟩ := t.two
    rw [t1.str_inv] at ea
    refine g_ixT (.of ea) (atI_of (by decide) rfl) (g_inK T (r := false) (by decide +kernel) ?_)
    walk_at "go"
    refine g_F rfl ?_
    walk_at "go"
    refine g_ixT (.of ea) (atI_of (by decide) rfl) ?_
    walk_at "go"
    refine g_F (by decide +kernel) ?_
    walk_at "go"
    intro l H1 nl el s1
    exact q l [] H1 nl el .nil s1
  | one k b =>
    obtain ⟨a, x, y, rfl, ea, t1, t2⟩ := t.two
    rw [t1.str_inv] at ea
    refine g_ixT (.of ea) (atI_of (by decide) rfl) (g_inK T (r := true) (by cases k <;> decide +kernel) ?_)
    walk_at "go"
    refine g_T rfl ?_
    walk_at "go"
    refine g_slT (.of ea) (not_whole (by simp)) fun p1 H1 n1 e1 s1 => ?_
    walk_at "go"
    refine g_listT (.of e1) fun l H2 nl el s2 => ?_
    exact q l _ H2 (s1.free nl) el (.cons ((t2.mono (Same.tk s1)).mono (Same.tk s2)) .nil) (s1.trans s2)
  | two k b c =>
    obtain ⟨a, x, y, z, rfl, ea, t1, t2, t3⟩ := t.three
    rw [t1.str_inv] at ea
    refine g_ixT (.of ea) (atI_of (by decide) rfl) (g_inK T (r := true) (by cases k <;> decide +kernel) ?_)
    walk_at "go"
    refine g_T rfl ?_
    walk_at "go"
    refine g_slT (.of ea) (not_whole (by simp)) fun p1 H1 n1 e1 s1 => ?_
    walk_at "go"
    refine g_listT (.of e1) fun l H2 nl el s2 => ?_
    have k2 : Tk H H2 := Same.tk (s1.trans s2)
    exact q l _ H2 (s1.free nl) el (.cons (t2.mono k2) (.cons (t3.mono k2) .nil)) (s1.trans s2)
  | whn b c d =>
    obtain ⟨a, xs, rfl, ea, h1⟩ := t.tup_inv
    obtain ⟨x1, r1, rfl, t1, h1⟩ := h1.cons_inv
    obtain ⟨x2, r1, rfl, t2, h1⟩ := h1.cons_inv
    obtain ⟨x3, r1, rfl, t3, h1⟩ := h1.cons_inv
    obtain ⟨x4, r1, rfl, t4, h1⟩ := h1.cons_inv
    rw [h1.nil_inv, t1.str_inv] at ea
    refine g_ixT (.of ea) (atI_of (by decide) rfl) (g_inK T (r := true) (by decide +kernel) ?_)
    walk_at "go"
    refine g_T rfl ?_
    walk_at "go"
    refine g_slT (.of ea) (not_whole (by simp)) fun p1 H1 n1 e1 s1 => ?_
    walk_at "go"
    refine g_listT (.of e1) fun l H2 nl el s2 => ?_
    have k2 : Tk H H2 := Same.tk (s1.trans s2)
    exact q l _ H2 (s1.free nl) el (.cons (t2.mono k2) (.cons (t3.mono k2) (.cons (t4.mono k2) .nil))) (s1.trans s2)
  | letp r b =>
    obtain ⟨a, x, y, z, rfl, ea, t1, t2, t3⟩ := t.three
    rw [t1.str_inv] at ea
    refine g_ixT (.of ea) (atI_of (by decide) rfl) (g_inK T (r := false) (by decide +kernel) ?_)
    walk_at "go"
    refine g_F rfl ?_
    walk_at "go"
    refine g_ixT (.of ea) (atI_of (by decide) rfl) ?_
    walk_at "go"
    refine g_T (by decide +kernel) ?_
    walk_at "go"
    refine g_seqT ?_
    walk_at "go"
    refine g_ixT (.of ea) (atI_of (by decide) rfl) ?_
    obtain ⟨ra, rs, rfl, er, tr⟩ := t2.tup_inv
    refine g_isT (.of er) fun dn hdn => ?_
    have hlen : rs.length = r.parts.length := by rw [tr.length, r.len]
    have hfew : r.parts.length ≤ 60 := by
      have h1 := r.sz
      have h2 := sz_len r.parts
      have h3 : 1 + (r.size + b.size) ≤ 60 := hz
      omega
    refine lc_any rs.length (fun i acc H' => Tps H' acc ((r.parts.take i).map Part.data) ∧ Same H H' ∧ acc.length = i) hdn
      (fun H' _ s => ⟨.nil, s, rfl⟩) (fun i acc H' hi ⟨_, s, _⟩ => ⟨_, _, .of (s _ _ er), List.getElem?_eq_getElem hi⟩) (fun acc H' ⟨_, s, _⟩ => ⟨_, .of (s _ _ er), Nat.le_refl _⟩) ?_ ?_
    · rintro i x acc _ H5 hi hl ⟨ta, s5, hacc⟩ hd5 ⟨rfl, hx⟩
      obtain ⟨d, hd, tx⟩ := tr.get (hx _ (.of (s5 _ _ er)))
      obtain ⟨nm, p, hnm, hp, rfl⟩ := Rows.get hd
      obtain ⟨a2, u1, u2, rfl, ea2, _, tp⟩ := tx.two
      refine g_un2 (s5 _ _ ea2) ?_
      refine ⟨rfl, ?_⟩
      walk_at "go"
      refine g_T rfl ?_
      walk_at "go"
      refine lc_step hd5 hl (by show _ < 16777216; omega) fun H6 e6 c6 => ?_
      refine ⟨?_, Same.chg s5 hdn c6, by simp [hacc]⟩
      rw [List.take_add_one, hp, List.map_append]
      exact Tps.append (ta.mono (c6.tkl hd5)) (.one (((tp.mono (Same.tk s5))).mono (c6.tkl hd5)))
    rintro us H5 hd5 ⟨tu, s5, hacc⟩
    rw [hlen, List.take_length] at tu
    walk_at "go"
    refine g_ixT (.of (s5 _ _ ea)) (atI_of (by decide) rfl) ?_
    walk_at "go"
    intro l6 H6 nl6 el6 s6
    walk_at "go"
    refine g_addL (s6 _ _ hd5) el6 (by rw [hacc, hlen]; show _ + 1 ≤ 16777216; omega) fun l H7 nl el s7 => ?_
    have s07 : Same H H7 := s5.trans (s6.trans s7)
    refine q l _ H7 (s5.free (s6.free nl)) el ?_ s07
    show Tps H7 _ ((r.parts ++ [b]).map Part.data)
    rw [List.map_append]
    exact Tps.append (tu.mono (Same.tk (s6.trans s7))) (.one (t3.mono (Same.tk s07)))
/-! ### the parts in order -/
def spOrder : Sp := fun vs H Q _ => ∃ (v : V) (p : Part), vs = [v] ∧ Tp H v p.data ∧ p.good ∧ p.size ≤ 60 ∧ ∀ (l : Addr) (us : List V) (H' : Hp), H l = none → H' l = some (.lst us) → Tps H' us (p.all.map Part.data) → Same H H' → Q (.ref l) H'
theorem pure_order {K : PySem.W.Frag} {w : World} : PureOk 1 spOrder (t_in_order K w spKids) 4 := by
  refine ⟨fun vs H Q E ⟨_, _, e, _⟩ => by rw [e]; rfl, ?_⟩
  rintro vs H Q E ⟨v, p, rfl, t, hg, hz, q⟩
  show t_in_order K w _ _ [some v, none, none, none] H
  unfold t_in_order
  walk_at "go"
  intro fl H1 nf ef s1
  walk_at "go"
  intro pl H2 np ep s2
  walk_at "go"
  have hfp : fl ≠ pl := ne_of_none ef np
  refine while_any (fun m σ H' => ∃ (x3 : Option V) (us vs : List V) (fs ps : List Part), σ = [some v, some (.ref fl), some (.ref pl), x3] ∧ H' fl = some (.lst us) ∧ H' pl = some (.lst vs) ∧ Tps H' us (fs.map Part.data) ∧ Tps H' vs (ps.map Part.data) ∧
      allGood ps ∧ fs ++ ps.reverse.flatMap Part.all = p.all ∧ fs.length + sz ps = p.size ∧ m = sz ps ∧ Same H H') (p.size + 0)
    ⟨none, [], [v], [], [p], rfl, s2 _ _ ef, ep, .nil, .cons (t.mono (Same.tk (s1.trans s2))) .nil, fun x hx => by rw [List.mem_singleton.mp hx]; exact hg, by simp, by show 0 + (p.size + 0) = _; omega, rfl, s1.trans s2⟩ ?_
  rintro m σ H3 ⟨x3, us, vs, fs, ps, rfl, hf, hp, tf, tp, hgs, hall, hn, rfl, s3⟩
  walk_at "go"
  intro e4 H4 ne4 ee4 s4
  have hg4 := shaped_parts hgs
  refine g_neLL (s4 _ _ hp) ee4 (tp.mono (Same.tk s4)) .nil hg4 shaped_nil ?_
  rw [eqv_nil]
  walk_at "go"
  refine g_ite (fun hne => ?_) (fun hne => ?_)
  · refine g_turn ?_
    obtain ⟨ps', p1, rfl⟩ : ∃ ps' p1, ps = ps' ++ [p1] := by
      have : ps ≠ [] := by rintro rfl; simp at hne
      exact ⟨ps.dropLast, ps.getLast this, (List.dropLast_concat_getLast this).symm⟩
    have hg1 : p1.good := hgs p1 (by simp)
    have hz1 : p1.size ≤ 60 := by
      have := sz_mem (q := p1) (a := ps' ++ [p1]) (by simp)
      omega
    rw [List.map_append] at tp
    obtain ⟨vs', v1, rfl, tp', t1⟩ := tp.snoc_inv
    have hp4 := s4 _ _ hp
    walk_at "go"
    refine g_tyl (.of hp4) ?_
    refine g_pop hp4 fun H5 e5 c5 => ?_
    walk_at "go"
    have s5 : Chg pl H H5 := fun b o n e => c5 b o n (s4 b o (s3 b o e))
    have k5 : Tk H3 H5 := (Same.tk s4).trans (c5.tkl hp4)
    have hf5 := c5 _ _ hfp (s4 _ _ hf)
    refine g_tyl (.of hf5) ?_
    walk_at "go"
    have hul : us.length = fs.length := by rw [tf.length, List.length_map]
    refine g_append hf5 (by rw [hul]; show _ < 16777216; omega) fun H6 e6 c6 => ?_
    walk_at "go"
    have k6 : Tk H3 H6 := k5.trans (c6.tkl hf5)
    have hp6 := c6 _ _ hfp.symm e5
    refine g_tyl (.of hp6) ?_
    walk_at "go"
    refine ⟨v1, p1, rfl, t1.mono k6, hg1, hz1, fun l7 ks H7 nl7 el7 tk7 s7 => ?_⟩
    refine g_revL (.of el7) ?_
    intro l8 H8 nl8 el8 s8
    have tk8 : Tps H8 ks.reverse (p1.kids.map Part.data).reverse := (tk7.mono (Same.tk s8)).reverse
    have hp8 := s8 _ _ (s7 _ _ hp6)
    have hsz := p1.sz_kids
    have hkl : ks.length = p1.kids.length := by rw [tk7.length, List.length_map]
    have hvl : vs'.length = ps'.length := by rw [tp'.length, List.length_map]
    have h1 := sz_len p1.kids
    have h2 := sz_len ps'
    have h3 := sz_app ps' [p1]
    have h4 : sz [p1] = p1.size := Nat.add_zero _
    walk_at "go"
    refine g_extend hp8 el8 (by rw [List.length_reverse, hkl, hvl]; show _ ≤ 16777216; omega) fun H9 e9 c9 => ?_
    walk_at "go"
    have k9 : Tk H8 H9 := c9.tkl hp8
    have k39 : Tk H3 H9 := (k6.trans (Same.tk (s7.trans s8))).trans k9
    have fl9 := c9 _ _ hfp (s8 _ _ (s7 _ _ e6))
    have npl : H pl = none := s1.free np
    have nfl : H fl = none := nf
    refine ⟨sz (ps' ++ p1.kids.reverse), by rw [sz_app, sz_rev]; omega, _, _, _, fs ++ [p1], ps' ++ p1.kids.reverse, rfl, fl9, e9, ?_, ?_, ?_, ?_, ?_, rfl, ?_⟩
    · rw [List.map_append]
      exact Tps.append (tf.mono k39) (.one (t1.mono k39))
    · rw [List.map_append, List.map_reverse]
      exact Tps.append (tp'.mono k39) (tk8.mono k9)
    · intro x hx
      rcases List.mem_append.mp hx with hx | hx
      · exact hgs x (List.mem_append.mpr (.inl hx))
      · exact hg1.kids x (List.mem_reverse.mp hx)
    · rw [← hall, List.reverse_append, List.reverse_append, List.reverse_reverse, List.flatMap_append, List.append_assoc]
      show fs ++ (p1 :: (p1.kids.flatMap Part.all ++ _)) = fs ++ (p1 :: ps'.reverse).flatMap Part.all
      rw [List.flatMap_cons, p1.all_kids, List.cons_append]
    · rw [sz_app, sz_rev, List.length_append]
      show _ + 1 + _ = _
      omega
    · exact fun b o e => c9 b o (ne_of_none e npl) (s8 b o (s7 b o (c6 b o (ne_of_none e nfl) (s5 b o (ne_of_none e npl) e))))
  · walk_at "go"
    have hps : ps = [] := by
      cases ps with
      | nil => rfl
      | cons a b => simp at hne
    subst hps
    rw [List.reverse_nil, List.flatMap_nil, List.append_nil] at hall
    rw [hall] at tf
    exact q fl us H4 nf (s4 _ _ hf) (tf.mono (Same.tk s4)) (s3.trans s4)
def spMany : Sp := fun vs H Q _ => ∃ (v : V) (p : Part), vs = [v] ∧ Tp H v p.data ∧ p.good ∧ p.size ≤ 60 ∧ ∀ (H' : Hp), Same H H' → Q (.int p.size) H'

/-! ### programs' rows -/
theorem Part.fine.good {fs sc : List Str} {p : Part} (h : p.fine fs sc) : p.good := ⟨⟨fs, sc, h.ok⟩, h.deep⟩
def Prog.bodies (P : Prog) : List Part := P.fs.map (·.body) ++ [P.asked]
theorem Tp.prog {H : Hp} {v : V} {P : Prog} (h : Tp H v P.data) : ∃ a b u vs, v = .ref a ∧ H a = some (.tup [.ref b, u]) ∧ H b = some (.tup vs) ∧ Tps H vs (P.fs.map Fn1.data) ∧ Tp H u P.asked.data := by
  obtain ⟨a, x, u, rfl, ha, h1, h2⟩ := h.two
  obtain ⟨b, vs, rfl, hb, h3⟩ := h1.tup_inv
  exact ⟨a, b, u, vs, rfl, ha, hb, h3, h2⟩
theorem Tp.fn1 {H : Hp} {v : V} {f : Fn1} (h : Tp H v f.data) : ∃ a b u, v = .ref a ∧ H a = some (.tup [.str f.name, .ref b, u]) ∧ H b = some (.tup (f.things.map V.str)) ∧ Tp H u f.body.data := by
  obtain ⟨a, x, y, u, rfl, ha, h1, h2, h3⟩ := h.three
  obtain ⟨b, vs, rfl, hb, h4⟩ := h2.tup_inv
  have : vs = f.things.map V.str := by
    have : ∀ (ss : List Str) (vs : List V), Tps H vs (ss.map PyData.str) → vs = ss.map V.str := by
      intro ss
      induction ss with
      | nil => intro vs h; exact h.nil_inv
      | cons s ss ih =>
        intro vs h
        obtain ⟨v, us, rfl, hv, hu⟩ := Tps.cons_inv (ds := ss.map PyData.str) h
        rw [hv.str_inv, ih us hu]
        rfl
    exact this _ _ h4
  subst this
  rw [h1.str_inv] at ha
  exact ⟨a, b, u, rfl, ha, hb, h3⟩
def spLaw (K : PySem.W.Frag) : Sp := fun vs H Q _ => ∃ (a : Addr) (ns : List Int), vs = [.ref a] ∧ SqL K H a (ns.map V.int) ∧ ns.length ≤ 63 ∧ ∀ H', Q (.bl true) H'
/-- drawn programs -/
def spRight : Sp := fun vs H Q _ => ∃ (v : V) (P : Prog), vs = [v] ∧ Tp H v P.data ∧ P.fine ∧ ∀ H' : Hp, Same H H' → Q (.bl true) H'

/-! ### numbers, things, wants of functions -/
/-- f is the j-th function's name, or none is and j is how many there are -/
def NumAt (P : Prog) (f : Str) (j : Nat) : Prop := P.names[j]? = some f ∨ (f ∉ P.names ∧ j = P.names.length)
def spNum : Sp := fun vs H Q _ => ∃ (v : V) (P : Prog) (f : Str) (j : Nat), vs = [v, .str f] ∧ Tp H v P.data ∧ P.fine ∧ NumAt P f j ∧ ∀ H' : Hp, Same H H' → Q (.int j) H'
/-- the things of the function f -/
def ThingsAt (P : Prog) (f : Str) (ts : List Str) : Prop := (∃ (j : Nat) (fn : Fn1), P.fs[j]? = some fn ∧ fn.name = f ∧ ts = fn.things) ∨ (f ∉ P.names ∧ ts = [])
def spThings : Sp := fun vs H Q _ => ∃ (v : V) (P : Prog) (f : Str) (ts : List Str), vs = [v, .str f] ∧ Tp H v P.data ∧ P.fine ∧ ThingsAt P f ts ∧ ∀ (a : Addr) (H' : Hp), H' a = some (.tup (ts.map V.str)) → Same H H' → Q (.ref a) H'
def spWants : Sp := fun vs H Q _ => ∃ (v : V) (P : Prog) (f : Str) (ts : List Str), vs = [v, .str f] ∧ Tp H v P.data ∧ P.fine ∧ ThingsAt P f ts ∧ ∀ (H' : Hp), Same H H' → Q (.int ts.length) H'

/-! ### parts by their words -/
def Part.word : Part → Str
  | .num _ => "number"
  | .name _ => "name"
  | .fn _ => "fun"
  | .one k _ => k.word
  | .two k _ _ => k.word
  | .whn _ _ _ => "when"
  | .letp _ _ => "let"
  | .shut _ => "shut"
def Part.args : Part → List PyData
  | .num n => [.int n]
  | .name x => [.str x]
  | .fn f => [.str f]
  | .one _ a => [a.data]
  | .two _ a b => [a.data, b.data]
  | .whn a b c => [a.data, b.data, c.data]
  | .letp r a => [.tuple r.datas, a.data]
  | .shut a => [a.data]
theorem Part.data_eq (p : Part) : p.data = .tuple (.str p.word :: p.args) := by cases p <;> rfl
/-- the parts that are things of a part's tuple -/
def Part.subs : Part → List Part
  | .one _ a => [a]
  | .two _ a b => [a, b]
  | .whn a b c => [a, b, c]
  | .shut a => [a]
  | _ => []
def plainWord (x : Str) : Prop := x ∉ [("number" : Str), "fun", "let", "name"]
theorem Part.args_subs {p : Part} (h : plainWord p.word) : p.args = p.subs.map Part.data := by
  cases p with
  | num n => exact absurd (show ("number" : Str) ∈ [("number" : Str), "fun", "let", "name"] from by simp) h
  | name n => exact absurd (show ("name" : Str) ∈ [("number" : Str), "fun", "let", "name"] from by simp) h
  | fn n => exact absurd (show ("fun" : Str) ∈ [("number" : Str), "fun", "let", "name"] from by simp) h
  | letp r a => exact absurd (show ("let" : Str) ∈ [("number" : Str), "fun", "let", "name"] from by simp) h
  | _ => rfl
theorem Tp.part {H : Hp} {v : V} {p : Part} (h : Tp H v p.data) : ∃ a xs, v = .ref a ∧ H a = some (.tup (.str p.word :: xs)) ∧ Tps H xs p.args := by
  rw [p.data_eq] at h
  obtain ⟨a, xs, rfl, h1, h2⟩ := h.tup_inv
  obtain ⟨x, us, rfl, hx, hu⟩ := h2.cons_inv
  rw [hx.str_inv] at h1
  exact ⟨a, us, rfl, h1, hu⟩
mutual
/-- how many parts, those within shut ones too -/
def Part.big : Part → Nat
  | .num _ => 1
  | .name _ => 1
  | .fn _ => 1
  | .one _ a => 1 + a.big
  | .two _ a b => 1 + (a.big + b.big)
  | .whn a b c => 1 + (a.big + (b.big + c.big))
  | .letp r a => 1 + (r.big + a.big)
  | .shut a => 1 + a.big
def Rows.big : Rows → Nat
  | .nil => 0
  | .cons _ a r => a.big + r.big
end
def bsum : List Part → Nat
  | [] => 0
  | p :: r => p.big + bsum r
mutual
/-- a part of which nothing is asked but that its functions are there; shut ones too -/
def Part.wf (fs : List Str) : Part → Prop
  | .num _ => True
  | .name _ => True
  | .fn f => f ∈ fs
  | .one _ a => a.wf fs
  | .two _ a b => a.wf fs ∧ b.wf fs
  | .whn a b c => a.wf fs ∧ b.wf fs ∧ c.wf fs
  | .letp r a => r.wf fs ∧ a.wf fs
  | .shut a => a.wf fs
def Rows.wf (fs : List Str) : Rows → Prop
  | .nil => True
  | .cons _ a r => a.wf fs ∧ r.wf fs
end
/-- what stands ahead of a part's gives; the things that it is given, in their order -/
def Part.head : Part → Part
  | .two .give a _ => a.head
  | p => p
def Part.given : Part → List Part
  | .two .give a b => a.given ++ [b]
  | _ => []
/-- how many things f wants -/
def Prog.wantsOf (P : Prog) (f : Str) : Nat := match P.fs.find? (fun g => decide (g.name = f)) with
  | some g => g.things.length
  | none => 0
/-- is it a worth -/
def Part.worth (P : Prog) (p : Part) : Bool := decide (p.word ∈ [("number" : Str), "pair"]) || match p.head with
  | .fn f => decide (p.given.length < P.wantsOf f)
  | _ => false
/-- rows of a list -/
def Rows.of : List (Str × Part) → Rows
  | [] => .nil
  | q :: r => .cons q.1 q.2 (Rows.of r)
def rowD (q : Str × Part) : PyData := .tuple [.str q.1, q.2.data]
/-- a pen's is no tuple -/
theorem pen_tup {H : Hp} {pen L b : Addr} {xs : List V} (h : PenAt H pen L) (e : H b = some (.tup xs)) : b ≠ pen := by
  obtain ⟨_, _, _, hp, _⟩ := h
  rintro rfl
  rw [hp] at e
  cases e
/-! layable, so deep -/
def layD (k : Nat) (d : PyData) : Prop := PyData.canLay0 d = true ∧ PyData.depth d ≤ k
def Part.lk (k : Nat) (p : Part) : Prop := layD k p.data
theorem depAll_of {k : Nat} : ∀ {ds : List PyData}, (∀ d ∈ ds, PyData.depth d ≤ k) → PyData.depthAll ds ≤ k
  | [], _ => by rw [PyData.depthAll]; omega
  | d :: ds, h => by
    have h1 := h d (by simp)
    have h2 := depAll_of fun e he => h e (List.mem_cons_of_mem _ he)
    rw [PyData.depthAll]
    omega
theorem layD.mono {j k : Nat} {d : PyData} (h : layD j d) (hjk : j ≤ k) : layD k d := ⟨h.1, Nat.le_trans h.2 hjk⟩
theorem Part.lk.mono {j k : Nat} {p : Part} (h : p.lk j) (hjk : j ≤ k) : p.lk k := layD.mono h hjk
theorem cut_tail {x : V} {xs : List V} : cutV (x :: xs) (some 1) none = xs := by
  unfold cutV
  rw [HT.sIx_none, show (1 : Int) = ((1 : Nat) : Int) from rfl, HT.sIx_nat, List.length_cons, Nat.min_eq_left (by omega)]
  show xs.take _ = xs
  rw [List.take_of_length_le (by omega)]
theorem subs_kids {p : Part} (hw : plainWord p.word) (hs : p.word ≠ "shut") : p.subs = p.kids := by
  cases p with
  | letp r a => exact absurd (show ("let" : Str) ∈ [("number" : Str), "fun", "let", "name"] from by simp) hw
  | shut a => exact absurd rfl hs
  | _ => rfl
theorem not_name {p : Part} (hw : plainWord p.word) : p.word ≠ "name" := fun e => hw (by rw [e]; simp)
theorem word_cases (p : Part) : (∃ n, p = .num n) ∨ (∃ x, p = .name x) ∨ (∃ f, p = .fn f) ∨ (∃ r a, p = .letp r a) ∨ (∃ a, p = .shut a) ∨ (plainWord p.word ∧ p.word ≠ "shut") := by
  cases p with
  | num n => exact .inl ⟨n, rfl⟩
  | name n => exact .inr (.inl ⟨n, rfl⟩)
  | fn n => exact .inr (.inr (.inl ⟨n, rfl⟩))
  | letp r a => exact .inr (.inr (.inr (.inl ⟨r, a, rfl⟩)))
  | shut a => exact .inr (.inr (.inr (.inr (.inl ⟨a, rfl⟩))))
  | one k a => exact .inr (.inr (.inr (.inr (.inr (by cases k <;> (simp only [plainWord, Part.word, K1.word]; decide))))))
  | two k a b => exact .inr (.inr (.inr (.inr (.inr (by cases k <;> (simp only [plainWord, Part.word, K2.word]; decide))))))
  | whn a b c => exact .inr (.inr (.inr (.inr (.inr (by simp only [plainWord, Part.word]; decide)))))
def Rows.list : Rows → List (Str × Part)
  | .nil => []
  | .cons x a r => (x, a) :: r.list
theorem Rows.list_datas : ∀ r : Rows, r.datas = r.list.map rowD
  | .nil => rfl
  | .cons x a r => by
    show _ :: r.datas = _ :: r.list.map rowD
    rw [Rows.list_datas r]
    rfl
theorem Rows.list_parts : ∀ r : Rows, r.parts = r.list.map (·.2)
  | .nil => rfl
  | .cons x a r => by
    show a :: r.parts = _
    rw [Rows.list_parts r]
    rfl
theorem Rows.list_names : ∀ r : Rows, r.names = r.list.map (·.1)
  | .nil => rfl
  | .cons x a r => by
    show x :: r.names = _
    rw [Rows.list_names r]
    rfl

/-! ### pens, parts: for the search -/
theorem ne_pen {H : Hp} {pen L a : Addr} (h : PenAt H pen L) (h' : Fr H a) : pen ≠ a := (h.ne h').1
theorem ne_penL {H : Hp} {pen L a : Addr} (h : PenAt H pen L) (h' : Fr H a) : L ≠ a := (h.ne h').2
theorem Chg.to_pen {H H' : Hp} {pen L b : Addr} {xs : List V} (c : Chg pen H H') (hP : PenAt H pen L) (h : H b = some (.tup xs)) : H' b = some (.tup xs) := c b _ (pen_tup hP h) h
local macro_rules | `(tactic| walk_at "at") => `(tactic| first
  | assumption
  | ((with_reducible refine Same.to (H := ?gh) ?gs ?gt); (case gs => assumption); walk_at "at")
  | ((with_reducible refine Chg.to_pen (H := ?gh) (pen := ?ga) (L := ?gl) (xs := ?gx) ?gs ?gp ?gt); (case gs => assumption); (case gp => walk_at "pen0"); (case gt => walk_at "at"))
  | ((with_reducible refine Chg.to (H := ?gh) (a := ?ga) ?gs ?gt ?gn); (case gs => assumption); (case gn => walk_at "ne"); (case gt => walk_at "at")))
local macro_rules | `(tactic| walk_at "free") => `(tactic| first
  | assumption
  | ((with_reducible refine Same.free (H' := ?gh) ?gs ?gt); (case gs => assumption); walk_at "free")
  | ((with_reducible refine Chg.free (H' := ?gh) (a := ?ga) ?gs ?gn ?gt); (case gs => assumption); (case gn => walk_at "ne"); walk_at "free"))
local macro_rules | `(tactic| walk_at "ne") => `(tactic| first
  | assumption
  | (refine Ne.symm ?gt; assumption)
  | ((refine ne_fr (H := ?gh) (o := ?go) ?g1 ?g2); (case g2 => assumption); (case g1 => walk_at "at"))
  | ((refine Ne.symm (ne_fr (H := ?gh) (o := ?go) ?g1 ?g2)); (case g2 => assumption); (case g1 => walk_at "at"))
  | ((refine ne_pen (H := ?gh) (L := ?gl) ?g1 ?g2); (case g2 => assumption); (case g1 => walk_at "pen0"))
  | ((refine ne_penL (H := ?gh) (pen := ?gl) ?g1 ?g2); (case g2 => assumption); (case g1 => walk_at "pen0"))
  | ((refine Ne.symm (ne_pen (H := ?gh) (L := ?gl) ?g1 ?g2)); (case g2 => assumption); (case g1 => walk_at "pen0"))
  | ((refine Ne.symm (ne_penL (H := ?gh) (pen := ?gl) ?g1 ?g2)); (case g2 => assumption); (case g1 => walk_at "pen0")))
local macro_rules | `(tactic| walk_at "pen0") => `(tactic| first
  | assumption
  | ((with_reducible refine PenAt.same (H := ?gh) ?gt ?gs); (case gs => assumption); walk_at "pen0"))
local macro_rules | `(tactic| walk_at "pen") => `(tactic| first
  | assumption
  | ((with_reducible refine PenAt.same (H := ?gh) ?gt ?gs); (case gs => assumption); walk_at "pen")
  | ((with_reducible refine PenAt.chg (H := ?gh) (d := ?gd) ?gt ?gs ?g1 ?g2); (case gs => assumption); (case g1 => walk_at "ne"); (case g2 => walk_at "ne"); walk_at "pen"))
local macro_rules | `(tactic| walk_at "tk") => `(tactic| first
  | assumption
  | exact Tk.refl _
  | ((with_reducible refine Tk.same (H1 := ?gh) ?gt ?gs); (case gs => assumption); walk_at "tk")
  | ((with_reducible refine Tk.lst (H1 := ?gh) (a := ?ga) (ys := ?gy) ?gt ?gs ?gl); (case gs => assumption); (case gl => walk_at "at"); walk_at "tk")
  | ((with_reducible refine Tk.dct (H1 := ?gh) (a := ?ga) (kvs := ?gy) ?gt ?gs ?gl); (case gs => assumption); (case gl => walk_at "at"); walk_at "tk")
  | ((with_reducible refine Tk.trans (H1 := ?gh) ?gt (PenAt.tk (pen := ?gp) (L := ?gq) ?gl ?gs)); (case gs => assumption); (case gl => walk_at "pen"); walk_at "tk")
  | ((with_reducible refine Tk.trans (H1 := ?gh) ?gt ?gs); (case gs => assumption); walk_at "tk"))
local macro_rules | `(tactic| walk_at "same") => `(tactic| first
  | assumption
  | exact Same.refl _
  | ((with_reducible refine Same.more (H1 := ?gh) ?gt ?gs); (case gs => assumption); walk_at "same")
  | ((with_reducible refine Same.more2 (H1 := ?gh) (d := ?gd) ?gt ?gs ?gf); (case gs => assumption); (case gf => walk_at "free"); walk_at "same"))
local macro_rules | `(tactic| walk_at "chg") => `(tactic| first
  | assumption
  | exact Chg.refl
  | ((with_reducible refine Chg.trans (H1 := ?gh) ?gt ?gs); (case gs => assumption); walk_at "chg")
  | ((with_reducible refine Chg.trans (H1 := ?gh) ?gt (Chg.same ?gs)); (case gs => assumption); walk_at "chg")
  | ((with_reducible refine Chg.fresh (H1 := ?gh) (d := ?gd) ?gt ?gf ?gs); (case gs => assumption); (case gf => walk_at "free"); walk_at "chg"))
local macro_rules | `(tactic| walk_at "tps") => `(tactic| first
  | assumption
  | exact Tps.nil
  | (with_reducible (refine Tps.cons ?g1 ?g2); (case g1 => walk_at "tp"); walk_at "tps")
  | ((refine Tps.to (H := ?gh) ?gt ?gk); (case gt => assumption); walk_at "tk"))
local macro_rules | `(tactic| walk_at "tp") => `(tactic| first
  | assumption
  | exact Tp.str _
  | exact Tp.int _
  | exact Tp.bl _
  | exact Tp.non
  | ((refine Tp.to (H := ?gh) ?gt ?gk); (case gt => assumption); walk_at "tk")
  | ((refine Tp.tup (xs := ?gx) ?g1 ?g2); (case g1 => walk_at "at"); walk_at "tps"))
local macro_rules | `(tactic| walk_at "g2") => `(tactic| first
  | walk_at "g1"
  | with_reducible refine New.mk fun p H n e s => ?_
  | with_reducible refine Put.mk fun H e c => ?_
  | ((with_reducible refine g_ixTa (xs := ?gx) (v := ?gv) ?gh ?ge ?gi ?gt); (case gh => walk_at "at"); (case ge => exact rfl); (case gi => decide))
  | ((with_reducible refine g_ixLa (xs := ?gx) (v := ?gv) ?gh ?ge ?gi ?gt); (case gh => walk_at "at"); (case ge => exact rfl); (case gi => decide))
  | ((with_reducible refine g_tyl (xs := ?gx) (SqL.of ?gh) ?gt); (case gh => walk_at "at"))
  | ((with_reducible refine g_T ?gh ?gt); (case gh => exact rfl))
  | ((with_reducible refine g_F ?gh ?gt); (case gh => exact rfl))
  | ((with_reducible refine g_lenL (xs := ?gx) (SqL.of ?gh) ?gt); (case gh => walk_at "at"))
  | ((with_reducible refine g_lenT (xs := ?gx) (SqT.of ?gh) ?gt); (case gh => walk_at "at"))
  | ((with_reducible refine g_tupleL (xs := ?gx) (SqL.of ?gh) ?gt); (case gh => walk_at "at"))
  | ((with_reducible refine g_tupleT (xs := ?gx) (SqT.of ?gh) ?gt); (case gh => walk_at "at"))
  | ((with_reducible refine g_listL (xs := ?gx) (SqL.of ?gh) ?gt); (case gh => walk_at "at"))
  | ((with_reducible refine g_listT (xs := ?gx) (SqT.of ?gh) ?gt); (case gh => walk_at "at"))
  | ((refine g_un2 (x := ?gx) (y := ?gy) ?gh ?gt); (case gh => walk_at "at"); (try dsimp only [List.set]))
  | ((refine g_un3 (x := ?gx) (y := ?gy) (z := ?gz) ?gh ?gt); (case gh => walk_at "at"); (try dsimp only [List.set]))
  | ((with_reducible refine g_inX (xs := ?gx) (r := true) ?gh ?gf ?ge ?gt); (case gh => walk_at "at"); (case gf => exact rfl); (case ge => exact rfl))
  | ((with_reducible refine g_inX (xs := ?gx) (r := false) ?gh ?gf ?ge ?gt); (case gh => walk_at "at"); (case gf => exact rfl); (case ge => exact rfl))
  | ((with_reducible refine g_notInX (xs := ?gx) (r := true) ?gh ?gf ?ge ?gt); (case gh => walk_at "at"); (case gf => exact rfl); (case ge => exact rfl))
  | ((with_reducible refine g_notInX (xs := ?gx) (r := false) ?gh ?gf ?ge ?gt); (case gh => walk_at "at"); (case gf => exact rfl); (case ge => exact rfl))
  | ((with_reducible refine g_inK (kvs := ?gk) (r := false) ?gh ?ge ?gt); (case gh => assumption); (case ge => exact rfl))
  | ((with_reducible refine g_inK (kvs := ?gk) (r := true) ?gh ?ge ?gt); (case gh => assumption); (case ge => exact rfl))
  | ((with_reducible refine g_dnew ?gt))
  | ((with_reducible refine g_isTa (xs := ?gx) ?gh ?gt); (case gh => walk_at "at"))
  | ((with_reducible refine g_isLa (xs := ?gx) ?gh ?gt); (case gh => walk_at "at")))
local macro_rules | `(tactic| walk_at "gg") => `(tactic| repeat walk_at "g2")
local macro_rules | `(tactic| walk_at "len") => `(tactic| (show _ ≤ 16777216; simp only [List.length_append, List.length_cons, List.length_nil, List.length_map, List.length_reverse]; omega))
local macro_rules | `(tactic| walk_at "g2") => `(tactic| first
  | ((with_reducible refine g_neNil (xs := ?gx) ?gh ?gi ?gt); (case gi => walk_at "at"); (case gh => walk_at "at"))
  | ((with_reducible refine g_eqNil (xs := ?gx) ?gh ?gi ?gt); (case gi => walk_at "at"); (case gh => walk_at "at"))
  | ((with_reducible refine g_inGT (xs := ?gx) (r := true) ?gh ?gf ?ge ?gt); (case gh => assumption); (case gf => exact rfl); (case ge => exact rfl))
  | ((with_reducible refine g_inGT (xs := ?gx) (r := false) ?gh ?gf ?ge ?gt); (case gh => assumption); (case gf => exact rfl); (case ge => exact rfl))
  | with_reducible refine g_neBI ?_ | with_reducible refine g_neBS ?_ | with_reducible refine g_eqBI ?_ | with_reducible refine g_eqBS ?_
  | with_reducible refine g_dictZ ?_
  | with_reducible refine g_zipM ?_
  | ((with_reducible refine g_dict (kvs := ?gx) ?gh ?gt); (case gh => walk_at "at"))
  | ((with_reducible refine g_addL (xs := ?gx) (ys := ?gy) ?gh ?gi ?gl ?gt); (case gh => walk_at "at"); (case gi => walk_at "at"); (case gl => walk_at "len")))
local macro_rules | `(tactic| walk_at "draw") => `(tactic| ((refine g_draw (L := ?gl) ?gp ?g0 ?g1 ?gq); (case gp => walk_at "pen"); (case g0 => decide); (case g1 => decide)))
local macro_rules | `(tactic| walk_at "g2") => `(tactic| first
  | with_reducible refine g_fld ?_ | with_reducible refine g_sfld ?_ | with_reducible refine g_meth ?_ | with_reducible refine g_make ?_
  | ((with_reducible refine g_fldr (C := ?gC) (dx := ?gd) (fs := ?gx) (v := ?gw) ?gh ?gc ?gn ?gv ?gt); (case gh => walk_at "at"); (case gc => assumption); (case gn => assumption); (case gv => exact rfl))
  | ((with_reducible refine g_methr (dx := ?gd) (fs := ?gx) ?gh ?gn ?gt); (case gh => walk_at "at"); (case gn => exact rfl))
  | with_reducible refine g_maker fun x dx H n e s => ?_)
local macro_rules | `(tactic| walk_at "g2") => `(tactic| first
  | with_reducible refine g_calE ?_ | with_reducible refine g_calS ?_ | with_reducible refine g_calN ?_ | with_reducible refine g_raiseO ?_ | with_reducible refine g_raiseI ?_ | with_reducible refine g_tryK ?_)

/-! ### closed parts put in -/
theorem Lk.up {K : PySem.W.Frag} {H : Hp} : ∀ {n m : Nat} {x y : V}, n ≤ m → Lk K H n x y → Lk K H m x y
  | 0, _, _, _, _, h => h.elim
  | n + 1, 0, _, _, hnm, _ => absurd hnm (by omega)
  | n + 1, m + 1, x, y, hnm, h => by
    have pu : ∀ {xs ys : List V}, Paired (Lk K H n) xs ys → Paired (Lk K H m) xs ys := by
      intro xs ys p
      induction p with
      | nil => exact .nil
      | cons a _ ih => exact .cons (Lk.up (by omega) a) ih
    rcases h with h | h | ⟨a, b, xs, ys, e1, e2, h1, h2, p⟩ | ⟨a, b, xs, ys, e1, e2, h1, h2, p⟩
    · exact .inl h
    · exact .inr (.inl h)
    · exact .inr (.inr (.inl ⟨a, b, xs, ys, e1, e2, h1, h2, pu p⟩))
    · exact .inr (.inr (.inr ⟨a, b, xs, ys, e1, e2, h1, h2, pu p⟩))
section
variable {K : PySem.W.Frag} {H H' : Hp}
/-- two tuples of alike things -/
theorem Lk.tup {n : Nat} {a b : Addr} {xs ys : List V} (ha : H a = some (.tup xs)) (hb : H b = some (.tup ys)) (p : Paired (Lk K H n) xs ys) : Lk K H (n + 1) (.ref a) (.ref b) := .inr (.inr (.inr ⟨a, b, xs, ys, rfl, rfl, .of ha, .of hb, p⟩))
theorem Lk.flat {n : Nat} {x : V} (h : flatB x = true) : Lk K H (n + 1) x x := .inl ⟨rfl, h⟩
theorem Lk.same {n : Nat} {a : Addr} : Lk K H (n + 1) (.ref a) (.ref a) := .inr (.inl ⟨a, rfl, rfl⟩)
mutual
theorem Tp.like : ∀ {d : PyData} {v v' : V} {n : Nat}, Tp H v d → Tp H v' d → PyData.depth d < n → Lk K H n v v'
  | .none, _, _, n, h, h', hn => by
    cases h; cases h'
    obtain ⟨m, rfl⟩ : ∃ m, n = m + 1 := ⟨n - 1, by omega⟩
    exact .flat rfl
  | .bool b, _, _, n, h, h', hn => by
    cases h; cases h'
    obtain ⟨m, rfl⟩ : ∃ m, n = m + 1 := ⟨n - 1, by omega⟩
    exact .flat rfl
  | .int i, _, _, n, h, h', hn => by
    cases h; cases h'
    obtain ⟨m, rfl⟩ : ∃ m, n = m + 1 := ⟨n - 1, by omega⟩
    exact .flat rfl
  | .str x, _, _, n, h, h', hn => by
    cases h; cases h'
    obtain ⟨m, rfl⟩ : ∃ m, n = m + 1 := ⟨n - 1, by omega⟩
    exact .flat rfl
  | .tuple ds, _, _, n, h, h', hn => by
    cases h with
    | tup e r =>
      cases h' with
      | tup e' r' =>
        obtain ⟨m, rfl⟩ : ∃ m, n = m + 1 := ⟨n - 1, by omega⟩
        rw [PyData.depth] at hn
        exact .tup e e' (Tps.like r r' (by omega))
  | .list ds, _, _, _, h, _, _ => by cases h
  | .dict ds, _, _, _, h, _, _ => by cases h
theorem Tps.like : ∀ {ds : List PyData} {vs vs' : List V} {n : Nat}, Tps H vs ds → Tps H vs' ds → PyData.depthAll ds < n → Paired (Lk K H n) vs vs'
  | [], _, _, _, h, h', _ => by cases h; cases h'; exact .nil
  | d :: ds, _, _, n, h, h', hn => by
    rw [PyData.depthAll] at hn
    cases h with
    | cons a b =>
      cases h' with
      | cons a' b' => exact .cons (Tp.like a a' (by omega)) (Tps.like b b' (by omega))
end
end
mutual
def Part.put (env : Str → Option Part) : Part → Part
  | .num n => .num n
  | .name x => match env x with
    | some q => .shut q
    | none => .name x
  | .fn f => .fn f
  | .one k a => .one k (a.put env)
  | .two k a b => .two k (a.put env) (b.put env)
  | .whn a b c => .whn (a.put env) (b.put env) (c.put env)
  | .letp r a => .letp (r.put env) (a.put env)
  | .shut a => .shut a
def Rows.put (env : Str → Option Part) : Rows → Rows
  | .nil => .nil
  | .cons x a r => .cons x (a.put env) (r.put env)
end
mutual
/-- v is the part with the values dv in the place of names; the same objects in both -/
def PutAt (H : Hp) (dv : Str → Option V) : Part → V → Prop
  | .num n, v => Tp H v (Part.num n).data
  | .name x, v => match dv x with
    | some u => ∃ a, v = .ref a ∧ H a = some (.tup [.str "shut", u])
    | none => Tp H v (Part.name x).data
  | .fn f, v => Tp H v (Part.fn f).data
  | .one k a, v => ∃ r x, v = .ref r ∧ H r = some (.tup [.str k.word, x]) ∧ PutAt H dv a x
  | .two k a b, v => ∃ r x y, v = .ref r ∧ H r = some (.tup [.str k.word, x, y]) ∧ PutAt H dv a x ∧ PutAt H dv b y
  | .whn a b c, v => ∃ r x y z, v = .ref r ∧ H r = some (.tup [.str "when", x, y, z]) ∧ PutAt H dv a x ∧ PutAt H dv b y ∧ PutAt H dv c z
  | .letp rs a, v => ∃ r b xs x, v = .ref r ∧ H r = some (.tup [.str "let", .ref b, x]) ∧ H b = some (.tup xs) ∧ PutRows H dv rs xs ∧ PutAt H dv a x
  | .shut a, v => Tp H v (Part.shut a).data
def PutRows (H : Hp) (dv : Str → Option V) : Rows → List V → Prop
  | .nil, vs => vs = []
  | .cons x a r, vs => ∃ c u us, vs = .ref c :: us ∧ H c = some (.tup [.str x, u]) ∧ PutAt H dv a u ∧ PutRows H dv r us
end
section
variable {H H' : Hp} {dv : Str → Option V}
mutual
theorem PutAt.mono (k : Tk H H') : ∀ {p : Part} {v : V}, PutAt H dv p v → PutAt H' dv p v
  | .num n, v, h => Tp.mono k h
  | .name x, v, h => by
    unfold PutAt at h ⊢
    split at h
    · obtain ⟨a, e, h⟩ := h
      exact ⟨a, e, k _ _ h⟩
    · exact Tp.mono k h
  | .fn f, v, h => Tp.mono k h
  | .one _ a, v, ⟨r, x, e, h, h1⟩ => ⟨r, x, e, k _ _ h, PutAt.mono k h1⟩
  | .two _ a b, v, ⟨r, x, y, e, h, h1, h2⟩ => ⟨r, x, y, e, k _ _ h, PutAt.mono k h1, PutAt.mono k h2⟩
  | .whn a b c, v, ⟨r, x, y, z, e, h, h1, h2, h3⟩ => ⟨r, x, y, z, e, k _ _ h, PutAt.mono k h1, PutAt.mono k h2, PutAt.mono k h3⟩
  | .letp rs a, v, ⟨r, b, xs, x, e, h, hb, h1, h2⟩ => ⟨r, b, xs, x, e, k _ _ h, k _ _ hb, PutRows.mono k h1, PutAt.mono k h2⟩
  | .shut a, v, h => Tp.mono k h
theorem PutRows.mono (k : Tk H H') : ∀ {r : Rows} {vs : List V}, PutRows H dv r vs → PutRows H' dv r vs
  | .nil, vs, h => h
  | .cons x a r, vs, ⟨c, u, us, e, h, h1, h2⟩ => ⟨c, u, us, e, k _ _ h, PutAt.mono k h1, PutRows.mono k h2⟩
end
/-- what dv tells is what env tells -/
def EnvAt (H : Hp) (dv : Str → Option V) (env : Str → Option Part) : Prop := ∀ x, (dv x = none ∧ env x = none) ∨ ∃ u q, dv x = some u ∧ env x = some q ∧ Tp H u q.data
mutual
theorem PutAt.tp {env : Str → Option Part} (he : EnvAt H dv env) : ∀ {p : Part} {v : V}, PutAt H dv p v → Tp H v (p.put env).data
  | .num n, v, h => h
  | .name x, v, h => by
    unfold PutAt at h
    unfold Part.put
    rcases he x with ⟨e1, e2⟩ | ⟨u, q, e1, e2, t⟩
    · rw [e1] at h
      rw [e2]
      exact h
    · rw [e1] at h
      rw [e2]
      obtain ⟨a, rfl, h⟩ := h
      exact .tup h (.cons (.str _) (.one t))
  | .fn f, v, h => h
  | .one _ a, v, ⟨r, x, e, h, h1⟩ => by
    subst e
    exact .tup h (.cons (.str _) (.one (PutAt.tp he h1)))
  | .two _ a b, v, ⟨r, x, y, e, h, h1, h2⟩ => by
    subst e
    exact .tup h (.cons (.str _) (.cons (PutAt.tp he h1) (.one (PutAt.tp he h2))))
  | .whn a b c, v, ⟨r, x, y, z, e, h, h1, h2, h3⟩ => by
    subst e
    exact .tup h (.cons (.str _) (.cons (PutAt.tp he h1) (.cons (PutAt.tp he h2) (.one (PutAt.tp he h3)))))
  | .letp rs a, v, ⟨r, b, xs, x, e, h, hb, h1, h2⟩ => by
    subst e
    exact .tup h (.cons (.str _) (.cons (.tup hb (PutRows.tp he h1)) (.one (PutAt.tp he h2))))
  | .shut a, v, h => h
theorem PutRows.tp {env : Str → Option Part} (he : EnvAt H dv env) : ∀ {r : Rows} {vs : List V}, PutRows H dv r vs → Tps H vs (r.put env).datas
  | .nil, vs, h => by
    have : vs = [] := h
    rw [this]
    exact .nil
  | .cons x a r, vs, ⟨c, u, us, e, h, h1, h2⟩ => by
    subst e
    exact .cons (.tup h (.cons (.str _) (.one (PutAt.tp he h1)))) (PutRows.tp he h2)
end
/-- values that == finds alike at once -/
def FlatDv (dv : Str → Option V) : Prop := ∀ x u, dv x = some u → ∃ a, u = .ref a
mutual
/-- how deep likeness goes -/
def Part.ld : Part → Nat
  | .num _ => 3
  | .name _ => 3
  | .fn _ => 3
  | .one _ a => 1 + max 1 a.ld
  | .two _ a b => 1 + max 1 (max a.ld b.ld)
  | .whn a b c => 1 + max 1 (max a.ld (max b.ld c.ld))
  | .letp r a => 1 + max (1 + r.ld) a.ld
  | .shut a => 2 + PyData.depth a.data
def Rows.ld : Rows → Nat
  | .nil => 1
  | .cons _ a r => max (1 + max 1 a.ld) r.ld
end
mutual
theorem PutAt.like {K : PySem.W.Frag} (hd : FlatDv dv) : ∀ {p : Part} {v v' : V}, PutAt H dv p v → PutAt H dv p v' → Lk K H p.ld v v'
  | .num n, v, v', h, h' => Tp.like h h' (by simp [Part.data, PyData.depth, PyData.depthAll, Part.ld])
  | .name x, v, v', h, h' => by
    unfold PutAt at h h'
    cases e : dv x with
    | none =>
      rw [e] at h h'
      exact Tp.like h h' (by simp [Part.data, PyData.depth, PyData.depthAll, Part.ld])
    | some u =>
      rw [e] at h h'
      obtain ⟨a, rfl, h⟩ := h
      obtain ⟨b, rfl, h'⟩ := h'
      obtain ⟨c, rfl⟩ := hd x u e
      exact .tup (n := 2) h h' (.cons (.flat rfl) (.cons .same .nil))
  | .fn f, v, v', h, h' => Tp.like h h' (by simp [Part.data, PyData.depth, PyData.depthAll, Part.ld])
  | .one k a, v, v', ⟨r, x, e, h, h1⟩, ⟨r', x', e', h', h1'⟩ => by
    subst e; subst e'
    have i1 := (PutAt.like (K := K) hd h1 h1').up (show a.ld ≤ max 1 a.ld from by omega)
    have i0 : Lk K H (max 1 a.ld) (.str k.word) (.str k.word) := Lk.up (n := 1) (by omega) (.flat rfl)
    have := Lk.tup h h' (.cons i0 (.cons i1 .nil))
    exact this.up (by show _ ≤ 1 + max 1 a.ld; omega)
  | .two k a b, v, v', ⟨r, x, y, e, h, h1, h2⟩, ⟨r', x', y', e', h', h1', h2'⟩ => by
    subst e; subst e'
    have i1 := (PutAt.like (K := K) hd h1 h1').up (show a.ld ≤ max 1 (max a.ld b.ld) from by omega)
    have i2 := (PutAt.like (K := K) hd h2 h2').up (show b.ld ≤ max 1 (max a.ld b.ld) from by omega)
    have i0 : Lk K H (max 1 (max a.ld b.ld)) (.str k.word) (.str k.word) := Lk.up (n := 1) (by omega) (.flat rfl)
    exact (Lk.tup h h' (.cons i0 (.cons i1 (.cons i2 .nil)))).up (by show _ ≤ 1 + max 1 (max a.ld b.ld); omega)
  | .whn a b c, v, v', ⟨r, x, y, z, e, h, h1, h2, h3⟩, ⟨r', x', y', z', e', h', h1', h2', h3'⟩ => by
    subst e; subst e'
    have i1 := (PutAt.like (K := K) hd h1 h1').up (show a.ld ≤ max 1 (max a.ld (max b.ld c.ld)) from by omega)
    have i2 := (PutAt.like (K := K) hd h2 h2').up (show b.ld ≤ max 1 (max a.ld (max b.ld c.ld)) from by omega)
    have i3 := (PutAt.like (K := K) hd h3 h3').up (show c.ld ≤ max 1 (max a.ld (max b.ld c.ld)) from by omega)
    have i0 : Lk K H (max 1 (max a.ld (max b.ld c.ld))) (.str "when") (.str "when") := Lk.up (n := 1) (by omega) (.flat rfl)
    exact (Lk.tup h h' (.cons i0 (.cons i1 (.cons i2 (.cons i3 .nil))))).up (by show _ ≤ 1 + max 1 (max a.ld (max b.ld c.ld)); omega)
  | .letp rs a, v, v', ⟨r, b, xs, x, e, h, hb, h1, h2⟩, ⟨r', b', xs', x', e', h', hb', h1', h2'⟩ => by
    subst e; subst e'
    have i2 := (PutAt.like (K := K) hd h2 h2').up (show a.ld ≤ max (1 + rs.ld) a.ld from by omega)
    have i1 := (Lk.tup hb hb' (PutRows.like (K := K) hd h1 h1')).up (show rs.ld + 1 ≤ max (1 + rs.ld) a.ld from by omega)
    have i0 : Lk K H (max (1 + rs.ld) a.ld) (.str "let") (.str "let") := Lk.up (n := 1) (by omega) (.flat rfl)
    exact (Lk.tup h h' (.cons i0 (.cons i1 (.cons i2 .nil)))).up (by show _ ≤ 1 + max (1 + rs.ld) a.ld; omega)
  | .shut a, v, v', h, h' => Tp.like h h' (by simp [Part.data, PyData.depth, PyData.depthAll, Part.ld]; omega)
theorem PutRows.like {K : PySem.W.Frag} (hd : FlatDv dv) : ∀ {r : Rows} {vs vs' : List V}, PutRows H dv r vs → PutRows H dv r vs' → Paired (Lk K H r.ld) vs vs'
  | .nil, vs, vs', h, h' => by
    have e : vs = [] := h
    have e' : vs' = [] := h'
    rw [e, e']
    exact .nil
  | .cons x a r, vs, vs', ⟨c, u, us, e, h, h1, h2⟩, ⟨c', u', us', e', h', h1', h2'⟩ => by
    subst e; subst e'
    have i1 := (PutAt.like (K := K) hd h1 h1').up (show a.ld ≤ max 1 a.ld from by omega)
    have i0 : Lk K H (max 1 a.ld) (.str x) (.str x) := Lk.up (n := 1) (by omega) (.flat rfl)
    have i := (Lk.tup h h' (.cons i0 (.cons i1 .nil))).up (show max 1 a.ld + 1 ≤ (Rows.cons x a r).ld from by show _ ≤ max (1 + max 1 a.ld) r.ld; omega)
    have rest := PutRows.like (K := K) hd h2 h2'
    have ru : ∀ {xs ys : List V}, Paired (Lk K H r.ld) xs ys → Paired (Lk K H (Rows.cons x a r).ld) xs ys := by
      intro xs ys p
      induction p with
      | nil => exact .nil
      | cons a _ ih => exact .cons (a.up (by show r.ld ≤ max _ r.ld; omega)) ih
    exact .cons i (ru rest)
end
end
/-! ### putting in, walked -/
def dvOf (kvs : List (Key × V)) : Str → Option V := fun x => valV kvs (.inr x)
def PutAll (H : Hp) (dv : Str → Option V) : List Part → List V → Prop
  | [], vs => vs = []
  | p :: r, vs => ∃ u us, vs = u :: us ∧ PutAt H dv p u ∧ PutAll H dv r us
section
variable {H H' : Hp} {dv : Str → Option V}
theorem PutAll.mono (k : Tk H H') : ∀ {ps : List Part} {vs : List V}, PutAll H dv ps vs → PutAll H' dv ps vs
  | [], vs, h => h
  | p :: r, vs, ⟨u, us, e, h1, h2⟩ => ⟨u, us, e, h1.mono k, PutAll.mono k h2⟩
theorem PutAll.len : ∀ {ps : List Part} {vs : List V}, PutAll H dv ps vs → vs.length = ps.length
  | [], vs, h => by
    have e : vs = [] := h
    rw [e]
    rfl
  | p :: r, vs, ⟨u, us, e, h1, h2⟩ => by
    subst e
    exact congrArg (· + 1) (PutAll.len h2)
end
def spPut (m : Nat) : Sp := fun vs H Q _ => ∃ (v : V) (p : Part) (d : Addr) (kvs : List (Key × V)), vs = [v, .ref d] ∧ Tp H v p.data ∧ p.deep ≤ m ∧ p.size ≤ 60 ∧ H d = some (.dK kvs) ∧ ∀ (v' : V) (H' : Hp), PutAt H' (dvOf kvs) p v' → Same H H' → Q v' H'

/-! ### looks: names, numbers, rows, the parts of a part -/
theorem g_chain {r r' : R2} {ta tb tc : TE} {σ : L2.St} {H : Hp} {Q : VK} (h : ta σ H fun x H1 => tb σ H1 fun y H2 => r x y H2 fun z H3 => ∃ k, z = .bl k ∧ (if k = true then tc σ H3 fun w' H4 => r' y w' H4 Q else Q (.bl false) H3)) : tChain r r' ta tb tc σ H Q := h
def abc : Str := "abcdefghijklmnopqrstuvwxyz"
def spIsName : Sp := fun vs H Q _ => ∃ (s : Str), vs = [.str s] ∧ isName s ∧ ∀ H', Same H H' → Q (.bl true) H'
def spIsWhole : Sp := fun vs H Q _ => ∃ (n : Int), vs = [.int n] ∧ ∀ H', Same H H' → Q (.bl true) H'
def spIsRow : Sp := fun vs H Q _ => ∃ (c : Addr) (x : Str) (u : V), vs = [.ref c] ∧ H c = some (.tup [.str x, u]) ∧ isName x ∧ ∀ H', Same H H' → Q (.bl true) H'
def spAreRows : Sp := fun vs H Q _ => ∃ (a : Addr) (xs : List V), vs = [.ref a] ∧ H a = some (.tup xs) ∧ 1 ≤ xs.length ∧ xs.length ≤ 4 ∧ (∀ (i : Nat) v, xs[i]? = some v → ∃ c x u, v = .ref c ∧ H c = some (.tup [.str x, u]) ∧ isName x) ∧ ∀ H', Same H H' → Q (.bl true) H'
def spIsSmall : Sp := fun vs H Q _ => ∃ (n : Int), vs = [.int n] ∧ n.natAbs < 10 ^ 60 ∧ Q (.bl true) H
theorem g_ixKT {K : PySem.W.Frag} {w : World} {H : Hp} {Q : VK} {d : Addr} {z : Str} {v : V} {kvs : List (Str × V)} (T : KTab K w d kvs) (e : (kvs.find? fun q => decide (q.1 = z)).map (·.2) = some v) (q : Q v H) : rIxG K w (.ref d) (.str z) H Q := .inr (.inr ⟨d, z, v, rfl, rfl, e ▸ T z, q⟩)
def spPartsOf : Sp := fun vs H Q _ => ∃ (v : V) (p : Part) (fs sc : List Str), vs = [v] ∧ Tp H v p.data ∧ p.ok fs sc ∧ p.size ≤ 60 ∧ ∀ (l : Addr) (us : List V) (H' : Hp), H l = none → H' l = some (.lst us) → Tps H' us (p.kids.map Part.data) → Same H H' → Q (.ref l) H'
/-! ### looks: bodies -/
def spIsBody : Sp := fun vs H Q _ => ∃ (v : V) (p : Part) (fs sc : List Str), vs = [v] ∧ Tp H v p.data ∧ p.ok fs sc ∧ p.deep ≤ 12 ∧ p.size ≤ 60 ∧ ∀ H', Same H H' → Q (.bl true) H'
def spIsFunction : Sp := fun vs H Q _ => ∃ (v : V) (f : Fn1) (fs : List Str), vs = [v] ∧ Tp H v f.data ∧ f.fine fs ∧ ∀ H', Same H H' → Q (.bl true) H'
def spIsBuilt : Sp := fun vs H Q _ => ∃ (v : V) (P : Prog), vs = [v] ∧ Tp H v P.data ∧ P.fine ∧ ∀ H', Same H H' → Q (.bl true) H'
/-! ### looks: names of rows; unlike ones -/
def nmL : Part → List Str
  | .letp r _ => r.names
  | _ => []
mutual
theorem Part.rn_all : ∀ p : Part, p.all.flatMap nmL = p.rowNames
  | .num _ => rfl
  | .name _ => rfl
  | .fn _ => rfl
  | .shut _ => rfl
  | .one k a => by show (Part.one k a :: a.all).flatMap nmL = a.rowNames; rw [List.flatMap_cons, Part.rn_all a]; rfl
  | .two k a b => by show (Part.two k a b :: (a.all ++ b.all)).flatMap nmL = a.rowNames ++ b.rowNames; rw [List.flatMap_cons, List.flatMap_append, Part.rn_all a, Part.rn_all b]; rfl
  | .whn a b c => by show (Part.whn a b c :: (a.all ++ (b.all ++ c.all))).flatMap nmL = a.rowNames ++ (b.rowNames ++ c.rowNames); rw [List.flatMap_cons, List.flatMap_append, List.flatMap_append, Part.rn_all a, Part.rn_all b, Part.rn_all c]; rfl
  | .letp r a => by show (Part.letp r a :: (r.all ++ a.all)).flatMap nmL = r.names ++ (r.rowNames ++ a.rowNames); rw [List.flatMap_cons, List.flatMap_append, Rows.rn_all r, Part.rn_all a]; rfl
theorem Rows.rn_all : ∀ r : Rows, r.all.flatMap nmL = r.rowNames
  | .nil => rfl
  | .cons x a r => by show (a.all ++ r.all).flatMap nmL = a.rowNames ++ r.rowNames; rw [List.flatMap_append, Part.rn_all a, Rows.rn_all r]
end
mutual
theorem Part.rn_size : ∀ p : Part, p.rowNames.length < p.size
  | .num _ => Nat.lt_succ_self _
  | .name _ => Nat.lt_succ_self _
  | .fn _ => Nat.lt_succ_self _
  | .shut _ => Nat.lt_succ_self _
  | .one k a => by have := Part.rn_size a; show a.rowNames.length < 1 + a.size; omega
  | .two k a b => by have := Part.rn_size a; have := Part.rn_size b; show (a.rowNames ++ b.rowNames).length < 1 + (a.size + b.size); rw [List.length_append]; omega
  | .whn a b c => by have := Part.rn_size a; have := Part.rn_size b; have := Part.rn_size c; show (a.rowNames ++ (b.rowNames ++ c.rowNames)).length < 1 + (a.size + (b.size + c.size)); rw [List.length_append, List.length_append]; omega
  | .letp r a => by have := Rows.rn_size r; have := Part.rn_size a; show (r.names ++ (r.rowNames ++ a.rowNames)).length < 1 + (r.size + a.size); rw [List.length_append, List.length_append]; omega
theorem Rows.rn_size : ∀ r : Rows, r.names.length + r.rowNames.length ≤ r.size
  | .nil => Nat.le_refl _
  | .cons x a r => by have := Part.rn_size a; have := Rows.rn_size r; show r.names.length + 1 + (a.rowNames ++ r.rowNames).length ≤ a.size + r.size; rw [List.length_append]; omega
end
theorem flat_take {ps : List Part} (i : Nat) : ((ps.take i).flatMap nmL).length ≤ (ps.flatMap nmL).length := by
  have h : ps.flatMap nmL = (ps.take i).flatMap nmL ++ (ps.drop i).flatMap nmL := by rw [← List.flatMap_append, List.take_append_drop]
  rw [h, List.length_append]
  omega
theorem nmL_no {p : Part} (h : p.word ≠ "let") : nmL p = [] := by
  cases p with
  | letp r a => exact absurd rfl h
  | _ => rfl
theorem word_let {p : Part} (h : p.word = "let") : ∃ r a, p = .letp r a := by
  cases p with
  | letp r a => exact ⟨r, a, rfl⟩
  | two k a b => cases k <;> exact absurd h (by simp only [Part.word, K1.word, K2.word]; decide)
  | one k a => cases k <;> exact absurd h (by simp only [Part.word, K1.word, K2.word]; decide)
  | _ => exact absurd h (by simp only [Part.word, K1.word, K2.word]; decide)
def spRowNames : Sp := fun vs H Q _ => ∃ (v : V) (p : Part), vs = [v] ∧ Tp H v p.data ∧ p.good ∧ p.size ≤ 60 ∧ ∀ (l : Addr) (H' : Hp), H l = none → H' l = some (.lst (p.rowNames.map V.str)) → Same H H' → Q (.ref l) H'
theorem pure_rownames {K : PySem.W.Frag} {w : World} : PureOk 1 spRowNames (t_row_names K w spOrder) 5 := by
  refine ⟨fun vs H Q E ⟨_, _, e, _⟩ => by rw [e]; rfl, ?_⟩
  rintro vs H Q E ⟨v, p, rfl, t, hg, hz, q⟩
  show t_row_names K w _ _ [some v, none, none, none, none] H
  unfold t_row_names
  have hrn := p.rn_all
  have hrs := p.rn_size
  have hfl : (p.all.flatMap nmL).length = p.rowNames.length := by rw [hrn]
  walk_at "gg"
  rename_i fl H1 n1 e1 s1
  refine g_seqL ?_
  walk_at "gg"
  refine ⟨v, p, rfl, t.mono (Same.tk s1), hg, hz, fun l us H2 nl el tl s2 => ?_⟩
  have e2 := s2 _ _ e1
  walk_at "gg"
  have hne : l ≠ fl := (ne_of_none e1 nl).symm
  have hul : us.length = p.all.length := by rw [tl.length, List.length_map]
  refine for_L (xs := us) (fun i σ H' => ∃ x2 x3 x4, σ = [some v, some (.ref fl), x2, x3, x4] ∧ H' fl = some (.lst (((p.all.take i).flatMap nmL).map V.str)) ∧ Chg fl H2 H') (fun i σ H' ⟨_, _, _, _, _, c⟩ => c _ _ hne el) ⟨_, _, _, rfl, e2, Chg.refl⟩ ?_ ?_
  · rintro i x σ H3 hx ⟨x2, x3, x4, rfl, e3, c3⟩
    obtain ⟨d, hd, tx⟩ := tl.get hx
    rw [List.getElem?_map] at hd
    obtain ⟨p1, hp1, rfl⟩ := Option.map_eq_some_iff.mp hd
    have k23 : Tk H2 H3 := c3.tkl e2
    have tx3 := tx.mono k23
    have hft := flat_take (ps := p.all) i
    have htk : (p.all.take (i + 1)).flatMap nmL = (p.all.take i).flatMap nmL ++ nmL p1 := by
      rw [List.take_add_one, hp1, List.flatMap_append]
      show _ ++ (nmL p1 ++ []) = _
      rw [List.append_nil]
    have hft1 := flat_take (ps := p.all) (i + 1)
    rw [htk, List.length_append] at hft1
    obtain ⟨a, xs, rfl, ea, txs⟩ := tx3.part
    walk_at "gg"
    by_cases hw : p1.word = "let"
    · refine g_T (decide_eq_true hw) ?_
      obtain ⟨r, b, rfl⟩ := word_let hw
      obtain ⟨x5, r5, rfl, t5, tr5⟩ := Tps.cons_inv (show Tps H3 xs [.tuple r.datas, b.data] from txs)
      obtain ⟨x6, r6, rfl, t6, tr6⟩ := tr5.cons_inv
      rw [tr6.nil_inv] at ea
      have ea' : H3 a = some (.tup [.str "let", x5, x6]) := ea
      obtain ⟨ra, rs, rfl, er, tr⟩ := t5.tup_inv
      have hrl : rs.length = r.names.length := by rw [tr.length, r.len, Rows.list_names, Rows.list_parts, List.length_map, List.length_map]
      have hnl : (nmL (.letp r b)).length = r.names.length := rfl
      clear ea txs tr5 tr6
      walk_at "gg"
      refine g_seqT ?_
      walk_at "gg"
      refine lc_mapT er (by omega) (fun i y H' => ∃ nm, r.names[i]? = some nm ∧ y = .str nm) (fun i y H H' k h => h) ?_ ?_
      · intro j y H' Nx hy s hN
        obtain ⟨d, hd, ty⟩ := tr.get hy
        obtain ⟨nm, p2, hnm, hp2, rfl⟩ := Rows.get hd
        obtain ⟨a2, u1, u2, rfl, ea2, tn, tp⟩ := ty.two
        rw [tn.str_inv] at ea2
        walk_at "gg"
        refine ⟨rfl, ?_⟩
        walk_at "gg"
        exact hN _ _ (.refl _) ⟨nm, hnm, rfl⟩
      · intro D ys H4 nD eD hys hF s4
        have hys2 : ys = r.names.map V.str := by
          refine List.ext_getElem? fun i => ?_
          cases e : ys[i]? with
          | none =>
            rw [List.getElem?_eq_none_iff] at e
            rw [List.getElem?_eq_none (by rw [List.length_map]; omega)]
          | some y =>
            obtain ⟨nm, hq, rfl⟩ := hF i y e
            rw [List.getElem?_map, hq]
            rfl
        subst hys2
        have e34 := s4 _ _ e3
        walk_at "gg"
        refine g_extend e34 eD (by rw [List.length_map, List.length_map]; show _ ≤ 16777216; omega) ?_
        walk_at "gg"
        rename_i H5 e5 c5
        refine ⟨_, _, _, rfl, ?_, c3.trans ((Chg.same s4).trans c5)⟩
        rw [htk, List.map_append]
        exact e5
    · refine g_F (decide_eq_false hw) ?_
      walk_at "gg"
      exact ⟨_, _, _, rfl, by rw [htk, nmL_no hw, List.append_nil]; exact e3, c3⟩
  · rintro σ H3 ⟨x2, x3, x4, rfl, e3, c3⟩
    rw [hul, List.take_length, hrn] at e3
    walk_at "gg"
    exact q fl H3 n1 e3 (Same.chg (s1.trans s2) n1 c3)
def spUnlike : Sp := fun vs H Q _ => ∃ (l : Addr) (ns : List Str), vs = [.ref l] ∧ H l = some (.lst (ns.map V.str)) ∧ ns.Nodup ∧ ns.length ≤ 1000 ∧ ∀ H', Same H H' → Q .non H'

/-! ### looks: names known; a program looked at -/
def spNamed (m : Nat) : Sp := fun vs H Q _ => ∃ (v : V) (kl fl : Addr) (p : Part) (fs sc : List Str), vs = [v, .ref kl, .ref fl] ∧ Tp H v p.data ∧ p.ok fs sc ∧ p.deep ≤ m ∧ p.size ≤ 60 ∧ H kl = some (.lst (sc.map V.str)) ∧ H fl = some (.lst (fs.map V.str)) ∧ sc.length + 4 * m ≤ 100 ∧ ∀ H', Same H H' → Q .non H'
theorem PARTS_in {p : Part} (hw : plainWord p.word) (hs : p.word ≠ "shut") : (PARTSkvs.find? fun q => decide (q.1 = p.word)).isSome = true := by
  cases p with
  | one k a => cases k <;> rfl
  | two k a b => cases k <;> rfl
  | whn a b c => rfl
  | shut a => exact absurd rfl hs
  | num n => exact absurd (show ("number" : Str) ∈ [("number" : Str), "fun", "let", "name"] from by simp) hw
  | name n => exact absurd (show ("name" : Str) ∈ [("number" : Str), "fun", "let", "name"] from by simp) hw
  | fn n => exact absurd (show ("fun" : Str) ∈ [("number" : Str), "fun", "let", "name"] from by simp) hw
  | letp r a => exact absurd (show ("let" : Str) ∈ [("number" : Str), "fun", "let", "name"] from by simp) hw
def spLooked : Sp := fun vs H Q _ => ∃ (v : V) (P : Prog), vs = [v] ∧ Tp H v P.data ∧ P.fine ∧ ∀ H', Same H H' → Q v H'

/-! ### programs' words -/
def numS (n : Int) : Str := Str.ofString (toString n)
theorem numS_len {n : Int} (h : n.natAbs < 10 ^ 60) : (numS n).length ≤ 61 := by
  unfold numS
  cases n with
  | ofNat m =>
    have h1 : (Int.ofNat m) < 10 ^ 60 := by
      have : (Int.ofNat m).natAbs = m := rfl
      show (m : Int) < 10 ^ 60
      omega
    have := PyProof.Rows.toString_length_le (v := Int.ofNat m) (Int.natCast_nonneg m) (k := 60) (by decide) h1
    omega
  | negSucc m =>
    have h1 : ((m + 1 : Nat) : Int) < 10 ^ 60 := by
      have : (Int.negSucc m).natAbs = m + 1 := rfl
      omega
    have h2 := PyProof.Rows.toString_length_le (v := ((m + 1 : Nat) : Int)) (Int.natCast_nonneg _) (k := 60) (by decide) h1
    rw [PyProof.Rows.ofString_length] at h2 ⊢
    have h3 : toString (Int.negSucc m) = "-" ++ toString ((m + 1 : Nat) : Int) := rfl
    rw [h3, String.toList_append, List.length_append]
    have : ("-" : String).toList.length = 1 := by decide
    omega
theorem log_small {n : Int} (h : n.natAbs < 10 ^ 60) : n.natAbs.log2 < 1920 := by
  by_cases h0 : n.natAbs = 0
  · rw [h0]; decide
  · have : n.natAbs.log2 < 200 := by
      rw [Nat.log2_lt h0]
      exact Nat.lt_trans h (by decide)
    omega
mutual
def Part.words : Part → List Str
  | .num n => [numS n]
  | .name x => ["." ++ x]
  | .fn f => [":" ++ f]
  | .one k a => k.word :: a.words
  | .two k a b => k.word :: (a.words ++ b.words)
  | .whn a b c => "when" :: (a.words ++ (b.words ++ c.words))
  | .letp r a => "let" :: numS r.parts.length :: (r.words ++ a.words)
  | .shut _ => []
def Rows.words : Rows → List Str
  | .nil => []
  | .cons x a r => ("." ++ x) :: (a.words ++ r.words)
end
def rwords (q : Str × Part) : List Str := ("." ++ q.1) :: q.2.words
theorem words_kids {p : Part} (hw : plainWord p.word) (hs : p.word ≠ "shut") : p.words = p.word :: p.kids.flatMap Part.words := by
  cases p with
  | one k a => simp [Part.words, Part.word, Part.kids]
  | two k a b => simp [Part.words, Part.word, Part.kids]
  | whn a b c => simp [Part.words, Part.word, Part.kids]
  | shut a => exact absurd rfl hs
  | num n => exact absurd (show ("number" : Str) ∈ [("number" : Str), "fun", "let", "name"] from by simp) hw
  | name n => exact absurd (show ("name" : Str) ∈ [("number" : Str), "fun", "let", "name"] from by simp) hw
  | fn n => exact absurd (show ("fun" : Str) ∈ [("number" : Str), "fun", "let", "name"] from by simp) hw
  | letp r a => exact absurd (show ("let" : Str) ∈ [("number" : Str), "fun", "let", "name"] from by simp) hw
theorem Rows.list_words : ∀ r : Rows, r.words = r.list.flatMap rwords
  | .nil => rfl
  | .cons x a r => by
    show _ :: (a.words ++ r.words) = _
    rw [Rows.list_words r]
    rfl
theorem Str.lenCat (a b : Str) : (a ++ b).length = a.length + b.length := by
  have h1 : a = SX.S a.cps.toList := (SX.S_tl a).symm
  have h2 : b = SX.S b.cps.toList := (SX.S_tl b).symm
  rw [h1, h2, SX.S_cat, SX.S_len, SX.S_len, SX.S_len, List.length_append]
theorem K1.word_len : ∀ k : K1, k.word.length ≤ 6 := by intro k; cases k <;> decide
theorem K2.word_len : ∀ k : K2, k.word.length ≤ 6 := by intro k; cases k <;> decide
mutual
theorem Part.words_ok {fs : List Str} : ∀ {p : Part} {sc : List Str}, p.ok fs sc → p.words.length + 1 ≤ 3 * p.size ∧ (∀ w ∈ p.words, w.length ≤ 61) ∧ p.words ≠ []
  | .num n, sc, h => ⟨by show 2 ≤ 3; decide, fun w hw => by rw [List.mem_singleton.mp hw]; exact numS_len h, by simp [Part.words]⟩
  | .name x, sc, h => ⟨by show 2 ≤ 3; decide, fun w hw => by
      rw [List.mem_singleton.mp hw, Str.lenCat]
      have := h.2.2.1
      have : ("." : Str).length = 1 := by decide
      omega, by simp [Part.words]⟩
  | .fn x, sc, h => ⟨by show 2 ≤ 3; decide, fun w hw => by
      rw [List.mem_singleton.mp hw, Str.lenCat]
      have := h.2.2.1
      have : (":" : Str).length = 1 := by decide
      omega, by simp [Part.words]⟩
  | .one k a, sc, h => by
    obtain ⟨h1, h2, _⟩ := Part.words_ok (p := a) h
    refine ⟨?_, fun w hw => ?_, by simp [Part.words]⟩
    · show a.words.length + 1 + 1 ≤ 3 * (1 + a.size)
      omega
    · rcases List.mem_cons.mp hw with rfl | hw
      · have := k.word_len; omega
      · exact h2 w hw
  | .two k a b, sc, h => by
    obtain ⟨h1, h2, _⟩ := Part.words_ok (p := a) h.1
    obtain ⟨h3, h4, _⟩ := Part.words_ok (p := b) h.2
    refine ⟨?_, fun w hw => ?_, by simp [Part.words]⟩
    · show (a.words ++ b.words).length + 1 + 1 ≤ 3 * (1 + (a.size + b.size))
      rw [List.length_append]
      omega
    · rcases List.mem_cons.mp hw with rfl | hw
      · have := k.word_len; omega
      · rcases List.mem_append.mp hw with hw | hw
        · exact h2 w hw
        · exact h4 w hw
  | .whn a b c, sc, h => by
    obtain ⟨h1, h2, _⟩ := Part.words_ok (p := a) h.1
    obtain ⟨h3, h4, _⟩ := Part.words_ok (p := b) h.2.1
    obtain ⟨h5, h6, _⟩ := Part.words_ok (p := c) h.2.2
    refine ⟨?_, fun w hw => ?_, by simp [Part.words]⟩
    · show (a.words ++ (b.words ++ c.words)).length + 1 + 1 ≤ 3 * (1 + (a.size + (b.size + c.size)))
      rw [List.length_append, List.length_append]
      omega
    · rcases List.mem_cons.mp hw with rfl | hw
      · decide
      · rcases List.mem_append.mp hw with hw | hw
        · exact h2 w hw
        · rcases List.mem_append.mp hw with hw | hw
          · exact h4 w hw
          · exact h6 w hw
  | .letp r a, sc, h => by
    obtain ⟨h1, h2, _⟩ := Part.words_ok (p := a) h.2.2.2.2
    obtain ⟨h3, h4⟩ := Rows.words_ok (r := r) h.2.2.2.1 h.2.2.1
    have hr : r.parts.length ≤ 4 := by
      have := h.1
      rw [Rows.list_names, List.length_map] at this
      rw [Rows.list_parts, List.length_map]
      exact this
    refine ⟨?_, fun w hw => ?_, by simp [Part.words]⟩
    · show (r.words ++ a.words).length + 1 + 1 + 1 ≤ 3 * (1 + (r.size + a.size))
      rw [List.length_append]
      omega
    · rcases List.mem_cons.mp hw with rfl | hw
      · decide
      · rcases List.mem_cons.mp hw with rfl | hw
        · exact numS_len (by show r.parts.length < 10 ^ 60; omega)
        · rcases List.mem_append.mp hw with hw | hw
          · exact h4 w hw
          · exact h2 w hw
  | .shut a, sc, h => h.elim
theorem Rows.words_ok {fs : List Str} : ∀ {r : Rows} {sc : List Str}, r.ok fs sc → (∀ x ∈ r.names, isName x) → r.words.length ≤ 3 * r.size ∧ (∀ w ∈ r.words, w.length ≤ 61)
  | .nil, sc, h, _ => ⟨Nat.zero_le _, fun w hw => absurd hw (by simp [Rows.words])⟩
  | .cons x a r, sc, h, hn => by
    obtain ⟨h1, h2, _⟩ := Part.words_ok (p := a) h.1
    obtain ⟨h3, h4⟩ := Rows.words_ok (r := r) h.2 fun y hy => hn y (List.mem_cons_of_mem _ hy)
    refine ⟨?_, fun w hw => ?_⟩
    · show (a.words ++ r.words).length + 1 ≤ 3 * (a.size + r.size)
      rw [List.length_append]
      omega
    · rcases List.mem_cons.mp hw with rfl | hw
      · rw [Str.lenCat]
        have := (hn x (by show x ∈ x :: r.names; simp)).2.1
        have : ("." : Str).length = 1 := by decide
        omega
      · rcases List.mem_append.mp hw with hw | hw
        · exact h2 w hw
        · exact h4 w hw
end
theorem good_words {p : Part} (h : p.good) (hz : p.size ≤ 60) : p.words.length ≤ 180 ∧ (∀ w ∈ p.words, w.length ≤ 61) ∧ p.words ≠ [] := by
  obtain ⟨⟨fs, sc, h1⟩, _⟩ := h
  obtain ⟨a, b, c⟩ := Part.words_ok h1
  exact ⟨by omega, b, c⟩
/-- the words of some: at most so many each -/
theorem flat_len {α : Type} {k : Nat} {g : α → List Str} : ∀ {l : List α}, (∀ q ∈ l, (g q).length ≤ k) → (l.flatMap g).length ≤ k * l.length
  | [], _ => Nat.zero_le _
  | q :: l, h => by
    have h1 := h q (by simp)
    have h2 := flat_len fun z hz => h z (List.mem_cons_of_mem _ hz)
    rw [List.flatMap_cons, List.length_append, List.length_cons, Nat.mul_succ]
    omega
theorem sum_len {k : Nat} : ∀ {l : List Str}, (∀ w ∈ l, w.length ≤ k) → (l.map (·.length)).sum ≤ k * l.length
  | [], _ => Nat.zero_le _
  | w :: l, h => by
    have h1 := h w (by simp)
    have h2 := sum_len fun z hz => h z (List.mem_cons_of_mem _ hz)
    rw [List.map_cons, List.sum_cons, List.length_cons, Nat.mul_succ]
    omega
theorem join_tl (y : Str) (parts : List Str) : (Txt.join y parts).cps.toList = TL.joinL y.cps.toList (parts.map fun s => s.cps.toList) := by
  have h1 : y = SX.S y.cps.toList := (SX.S_tl y).symm
  have h2 : parts = (parts.map fun s => s.cps.toList).map SX.S := by
    rw [List.map_map]
    have : (SX.S ∘ fun s : Str => s.cps.toList) = id := funext fun s => SX.S_tl s
    rw [this, List.map_id]
  conv => lhs; rw [h1, h2, SX.join_S]
theorem str_ext {a b : Str} (h : a.cps.toList = b.cps.toList) : a = b := by
  rw [← SX.S_tl a, ← SX.S_tl b, h]
theorem joinL_len (s : List Nat) : ∀ ps : List (List Nat), (TL.joinL s ps).length ≤ (ps.map (·.length)).sum + ps.length * s.length
  | [] => Nat.zero_le _
  | [p] => by simp [TL.joinL]
  | p :: q :: r => by
    have ih := joinL_len s (q :: r)
    show (p ++ (s ++ TL.joinL s (q :: r))).length ≤ _
    rw [List.length_append, List.length_append, List.map_cons, List.sum_cons, List.length_cons, Nat.succ_mul]
    omega
theorem join_len {k : Nat} {y : Str} {l : List Str} (h : ∀ w ∈ l, w.length ≤ k) : (Txt.join y l).length ≤ (k + y.length) * l.length := by
  have h1 : (Txt.join y l).length = (Txt.join y l).cps.toList.length := by simp [Str.length]
  rw [h1, join_tl]
  have h2 := joinL_len y.cps.toList (l.map fun s => s.cps.toList)
  have h3 := sum_len h
  rw [List.map_map, List.length_map] at h2
  have h4 : ((fun x : List Nat => x.length) ∘ fun s : Str => s.cps.toList) = fun s : Str => s.length := funext fun s => by simp [Str.length]
  rw [h4] at h2
  have h5 : y.cps.toList.length = y.length := by simp [Str.length]
  rw [h5] at h2
  rw [Nat.add_mul, Nat.mul_comm y.length l.length]
  omega
theorem join_head {y x : Str} {l : List Str} (h : l ≠ []) : Txt.join y (x :: l) = (x ++ y) ++ Txt.join y l := by
  cases l with
  | nil => exact absurd rfl h
  | cons z l =>
    refine str_ext ?_
    have e1 : ∀ a b : Str, (a ++ b).cps.toList = a.cps.toList ++ b.cps.toList := fun a b => TL.tl_append a b
    rw [join_tl, e1, e1, join_tl]
    show _ ++ (_ ++ TL.joinL _ _) = _
    rw [List.append_assoc]
    rfl
theorem g_strI {i : Int} {H : Hp} {Q : VK} (h : i.natAbs.log2 < 1920) (q : Q (.str (numS i)) H) : rStrG [.int i] H Q := ⟨i, rfl, h, q⟩
theorem g_join {K : PySem.W.Frag} {a : Str} {p : Addr} {ys : List Str} {H : Hp} {Q : VK} (h : SqL K H p (ys.map V.str)) {k m : Nat} (h1 : ∀ w ∈ ys, w.length ≤ k) (h2 : ys.length ≤ m) (h3 : k * m + m * a.length ≤ 16777216) (q : Q (.str (Txt.join a ys)) H) : rJoinG K (.str a) [.ref p] H Q :=
  ⟨a, p, ys, rfl, rfl, .inl h, by
    have h4 := sum_len h1
    have h5 : k * ys.length ≤ k * m := Nat.mul_le_mul_left k h2
    have h6 : ys.length * a.length ≤ m * a.length := Nat.mul_le_mul_right _ h2
    omega, q⟩

/-! ### words -/
def spWords (m : Nat) : Sp := fun vs H Q _ => ∃ (v : V) (p : Part), vs = [v] ∧ Tp H v p.data ∧ p.good ∧ p.size ≤ 60 ∧ p.deep ≤ m ∧ ∀ (l : Addr) (H' : Hp), H' l = some (.lst (p.words.map V.str)) → Same H H' → Q (.ref l) H'
theorem words_len {ps : List Part} (hg : ∀ q ∈ ps, q.good ∧ q.size ≤ 60) (hl : ps.length ≤ 60) : (ps.flatMap Part.words).length ≤ 10800 := by
  have := flat_len (k := 180) (l := ps) (g := Part.words) fun q hq => (good_words (hg q hq).1 (hg q hq).2).1
  omega
theorem rwords_len {rs : List (Str × Part)} (hg : ∀ q ∈ rs, q.2.good ∧ q.2.size ≤ 60) (hl : rs.length ≤ 60) : (rs.flatMap rwords).length ≤ 10860 := by
  have := flat_len (k := 181) (l := rs) (g := rwords) fun q hq => by
    have := (good_words (hg q hq).1 (hg q hq).2).1
    show q.2.words.length + 1 ≤ 181
    omega
  omega
theorem Part.good.num {n : Int} (h : (Part.num n).good) : n.natAbs < 10 ^ 60 := by
  obtain ⟨⟨fs, sc, h⟩, _⟩ := h
  exact h
theorem Part.good.name {x : Str} (h : (Part.name x).good) : isName x := by
  obtain ⟨⟨fs, sc, h⟩, _⟩ := h
  exact h.2
theorem Part.good.fn {x : Str} (h : (Part.fn x).good) : isName x := by
  obtain ⟨⟨fs, sc, h⟩, _⟩ := h
  exact h.2
theorem Part.good.rows {r : Rows} {a : Part} (h : (Part.letp r a).good) (hz : (Part.letp r a).size ≤ 60) : r.list.length ≤ 4 ∧ (∀ q ∈ r.list, isName q.1 ∧ q.2.good ∧ q.2.size ≤ 60 ∧ q.2.deep + 1 ≤ (Part.letp r a).deep) ∧ a.good ∧ a.size ≤ 60 ∧ a.deep + 1 ≤ (Part.letp r a).deep := by
  have hk := h.kids
  have hsz := (Part.letp r a).sz_kids
  have hmx := (Part.letp r a).mxd_kids
  obtain ⟨⟨fs, sc, h1, _, h3, _⟩, _⟩ := h
  rw [Rows.list_names, List.length_map] at h1
  have hka : a ∈ (Part.letp r a).kids := by show a ∈ r.parts ++ [a]; simp
  have m1 := sz_mem hka
  have m2 := mxd_mem hka
  refine ⟨h1, fun q hq => ?_, hk a hka, by omega, by omega⟩
  have hq2 : q.2 ∈ (Part.letp r a).kids := by
    show q.2 ∈ r.parts ++ [a]
    rw [Rows.list_parts]
    exact List.mem_append.mpr (.inl (List.mem_map.mpr ⟨q, hq, rfl⟩))
  have m3 := sz_mem hq2
  have m4 := mxd_mem hq2
  exact ⟨h3 q.1 (by rw [Rows.list_names]; exact List.mem_map.mpr ⟨q, hq, rfl⟩), hk q.2 hq2, by omega, by omega⟩
theorem kvs_word1 : ∀ k : K1, (PARTSkvs.find? fun q => decide (q.1 = k.word)).isSome = true := by intro k; cases k <;> decide +kernel
theorem kvs_word2 : ∀ k : K2, (PARTSkvs.find? fun q => decide (q.1 = k.word)).isSome = true := by intro k; cases k <;> decide +kernel
theorem kvs_when : (PARTSkvs.find? fun q => decide (q.1 = ("when" : Str))).isSome = true := by decide +kernel
theorem pure_words {K : PySem.W.Frag} {w : World} (T : KTab K w (He.ga K "PARTS") PARTSkvs) {m : Nat} : PureOk 1 (spWords (m + 1)) (t_words_of K w (spWords m)) 4 := by
  refine ⟨fun vs H Q E ⟨_, _, e, _⟩ => by rw [e]; rfl, ?_⟩
  rintro vs H Q E ⟨v, p, rfl, t, hg, hz, hm, q⟩
  show t_words_of K w _ _ [some v, none, none, none] H
  unfold t_words_of
  walk_at "go"
  rcases word_cases p with ⟨n, rfl⟩ | ⟨x, rfl⟩ | ⟨f, rfl⟩ | ⟨r, b, rfl⟩ | ⟨b, rfl⟩ | ⟨hw, hs⟩
  · obtain ⟨a, u1, u2, rfl, ea, t1, t2⟩ := t.two
    rw [t1.str_inv, t2.int_inv] at ea
    refine g_ixT (.of ea) (atI_of (by decide) rfl) ?_
    walk_at "go"
    refine g_T (by decide) ?_
    walk_at "go"
    refine g_ixT (.of ea) (atI_of (by decide) rfl) ?_
    walk_at "go"
    refine g_strI (log_small hg.num) ?_
    walk_at "go"
    intro l H1 nl el s1
    exact q l H1 el s1
  · obtain ⟨a, u1, u2, rfl, ea, t1, t2⟩ := t.two
    rw [t1.str_inv, t2.str_inv] at ea
    refine g_ixT (.of ea) (atI_of (by decide) rfl) ?_
    walk_at "go"
    refine g_F (by decide) ?_
    walk_at "go"
    refine g_ixT (.of ea) (atI_of (by decide) rfl) ?_
    walk_at "go"
    refine g_T (by decide) ?_
    walk_at "go"
    refine g_ixT (.of ea) (atI_of (by decide) rfl) ?_
    refine g_addS (by have := hg.name.2.1; have : ("." : Str).length = 1 := by decide
                      show _ ≤ 16777216; omega) ?_
    walk_at "go"
    intro l H1 nl el s1
    exact q l H1 el s1
  · obtain ⟨a, u1, u2, rfl, ea, t1, t2⟩ := t.two
    rw [t1.str_inv, t2.str_inv] at ea
    refine g_ixT (.of ea) (atI_of (by decide) rfl) ?_
    walk_at "go"
    refine g_F (by decide) ?_
    walk_at "go"
    refine g_ixT (.of ea) (atI_of (by decide) rfl) ?_
    walk_at "go"
    refine g_F (by decide) ?_
    walk_at "go"
    refine g_ixT (.of ea) (atI_of (by decide) rfl) ?_
    walk_at "go"
    refine g_T (by decide) ?_
    walk_at "go"
    refine g_ixT (.of ea) (atI_of (by decide) rfl) ?_
    refine g_addS (by have := hg.fn.2.1; have : (":" : Str).length = 1 := by decide
                      show _ ≤ 16777216; omega) ?_
    walk_at "go"
    intro l H1 nl el s1
    exact q l H1 el s1
  · obtain ⟨hr4, hrq, hbg, hbz, hbd⟩ := hg.rows hz
    obtain ⟨a, u1, u2, u3, rfl, ea, t1, t2, t3⟩ := t.three
    rw [t1.str_inv] at ea
    obtain ⟨ra, rs, rfl, er, tr⟩ := t2.tup_inv
    rw [Rows.list_datas] at tr
    have hrl : rs.length = r.list.length := by rw [tr.length, List.length_map]
    refine g_ixT (.of ea) (atI_of (by decide) rfl) ?_
    walk_at "go"
    refine g_F (by decide) ?_
    walk_at "go"
    refine g_ixT (.of ea) (atI_of (by decide) rfl) ?_
    walk_at "go"
    refine g_F (by decide) ?_
    walk_at "go"
    refine g_ixT (.of ea) (atI_of (by decide) rfl) ?_
    walk_at "go"
    refine g_F (by decide) ?_
    walk_at "go"
    refine g_ixT (.of ea) (atI_of (by decide) rfl) ?_
    walk_at "go"
    intro wl H1 nw ew s1
    walk_at "go"
    have ea1 := s1 _ _ ea
    have er1 := s1 _ _ er
    refine g_ixT (.of ea1) (atI_of (by decide) rfl) (g_inK T (r := false) (by decide +kernel) ?_)
    walk_at "go"
    refine g_F rfl ?_
    walk_at "go"
    refine g_tyl (.of ew) ?_
    walk_at "go"
    refine g_ixT (.of ea1) (atI_of (by decide) rfl) ?_
    walk_at "go"
    refine g_lenT (.of er1) ?_
    walk_at "go"
    refine g_strI (log_small (by show rs.length < 10 ^ 60; omega)) ?_
    walk_at "go"
    refine g_append ew (by show 1 < 16777216; decide) fun H2 e2 c2 => ?_
    walk_at "go"
    have k12 : Tk H1 H2 := c2.tkl ew
    have er2 := k12 _ _ er1
    have s02 : Same H H2 := Same.chg s1 nw c2
    refine g_seqT ?_
    walk_at "go"
    refine g_ixT (.of (k12 _ _ ea1)) (atI_of (by decide) rfl) ?_
    refine g_isT (.of er2) ?_
    refine for_any rs.length (fun i σ H' => ∃ (x2 x3 : Option V), σ = [some (.ref a), some (.ref wl), x2, x3] ∧ H' wl = some (.lst ((("let" : Str) :: numS rs.length :: (r.list.take i).flatMap rwords).map V.str)) ∧ Same H H' ∧ Chg wl H2 H')
      ⟨none, none, rfl, e2, s02, .refl⟩ (fun i σ H' hi ⟨_, _, _, _, s, _⟩ => ⟨_, _, .of (s _ _ er), List.getElem?_eq_getElem hi⟩) (fun σ H' ⟨_, _, _, _, s, _⟩ => ⟨_, .of (s _ _ er), Nat.le_refl _⟩) ?_ ?_
    · rintro i x σ _ H5 hi ⟨x2, x3, rfl, ew5, s5, c5⟩ ⟨rfl, hx⟩
      obtain ⟨d, hd, tx⟩ := tr.get (hx _ (.of (s5 _ _ er)))
      rw [List.getElem?_map] at hd
      obtain ⟨⟨nm, p⟩, hp, rfl⟩ := Option.map_eq_some_iff.mp hd
      obtain ⟨hn, hpg, hpz, hpd⟩ := hrq _ (List.mem_of_getElem? hp)
      obtain ⟨a2, y1, y2, rfl, ea2, tn, tp⟩ := (tx.mono (Same.tk s5)).two
      rw [tn.str_inv] at ea2
      refine g_un2 ea2 ?_
      walk_at "go"
      refine g_tyl (.of ew5) ?_
      walk_at "go"
      have hfl := rwords_len (rs := r.list.take i) (fun z hz => ⟨(hrq z (List.mem_of_mem_take hz)).2.1, (hrq z (List.mem_of_mem_take hz)).2.2.1⟩) (by rw [List.length_take]; omega)
      refine g_addS (by have := hn.2.1; have : ("." : Str).length = 1 := by decide
                        show _ ≤ 16777216; omega) ?_
      walk_at "go"
      refine g_append ew5 (by rw [List.length_map, List.length_cons, List.length_cons]; show _ < 16777216; omega) fun H6 e6 c6 => ?_
      walk_at "go"
      refine g_tyl (.of e6) ?_
      walk_at "go"
      have k56 : Tk H5 H6 := c6.tkl ew5
      refine ⟨y2, p, rfl, tp.mono k56, hpg, hpz, by show p.deep ≤ m; have : p.deep + 1 ≤ _ := hpd; omega, fun l7 H7 el7 s7 => ?_⟩
      walk_at "go"
      have hpw : p.words.length ≤ 180 := (good_words hpg hpz).1
      refine g_extend (s7 _ _ e6) el7 (by rw [List.length_append, List.length_map, List.length_map, List.length_cons, List.length_cons, List.length_singleton]; show _ ≤ 16777216; omega) fun H8 e8 c8 => ?_
      walk_at "go"
      have c58 : Chg wl H5 H8 := c6.trans ((Chg.same s7).trans c8)
      refine ⟨_, _, rfl, ?_, Same.chg s5 (by exact nw) c58, c5.trans c58⟩
      rw [e8, List.take_add_one, hp, Option.toList, List.flatMap_append]
      simp [rwords]
    rintro σ H5 ⟨x2, x3, rfl, ew5, s5, c5⟩
    rw [hrl, List.take_length, ← Rows.list_words] at ew5
    walk_at "go"
    refine g_ixT (.of (s5 _ _ ea)) (atI_of (by decide) rfl) ?_
    walk_at "go"
    refine ⟨u3, b, rfl, t3.mono (Same.tk s5), hbg, hbz, by omega, fun l7 H7 el7 s7 => ?_⟩
    have hbw := (good_words hbg hbz).1
    have hrw : r.words.length ≤ 10860 := by
      rw [Rows.list_words]
      exact rwords_len (fun z hz => ⟨(hrq z hz).2.1, (hrq z hz).2.2.1⟩) (by omega)
    refine g_addL (s7 _ _ ew5) el7 (by rw [List.length_map, List.length_map, List.length_cons, List.length_cons]; show _ ≤ 16777216; omega) fun l8 H8 nl8 el8 s8 => ?_
    refine q l8 H8 ?_ (s5.trans (s7.trans s8))
    rw [el8, ← List.map_append]
    show _ = some (HO.lst ((("let" : Str) :: numS r.parts.length :: (r.words ++ b.words)).map V.str))
    rw [Rows.list_parts, List.length_map]
    rfl
  · exact hg.1.elim fun _ h => h.elim fun _ h => h.elim
  · obtain ⟨a, xs, rfl, ea, tx⟩ := t.part
    rw [Part.args_subs hw, subs_kids hw hs] at tx
    have hkg := hg.kids
    have hdk := p.mxd_kids
    have hszk := p.sz_kids
    have hkl := sz_len p.kids
    have hxl : xs.length = p.kids.length := by rw [tx.length, List.length_map]
    have hwc := words_kids hw hs
    refine g_ixT (.of ea) (atI_of (by decide) rfl) ?_
    walk_at "go"
    refine g_F (decide_eq_false fun e => hw (by rw [e]; simp)) ?_
    walk_at "go"
    refine g_ixT (.of ea) (atI_of (by decide) rfl) ?_
    walk_at "go"
    refine g_F (decide_eq_false fun e => hw (by rw [e]; simp)) ?_
    walk_at "go"
    refine g_ixT (.of ea) (atI_of (by decide) rfl) ?_
    walk_at "go"
    refine g_F (decide_eq_false fun e => hw (by rw [e]; simp)) ?_
    walk_at "go"
    refine g_ixT (.of ea) (atI_of (by decide) rfl) ?_
    walk_at "go"
    intro wl H1 nw ew s1
    walk_at "go"
    have ea1 := s1 _ _ ea
    have hin : (PARTSkvs.find? fun q => decide (q.1 = p.word)).isSome = true := by
      cases p with
      | one k a => exact kvs_word1 k
      | two k a b => exact kvs_word2 k
      | whn a b c => exact kvs_when
      | shut a => exact absurd rfl hs
      | num n => exact absurd (show ("number" : Str) ∈ [("number" : Str), "fun", "let", "name"] from by simp) hw
      | name n => exact absurd (show ("name" : Str) ∈ [("number" : Str), "fun", "let", "name"] from by simp) hw
      | fn n => exact absurd (show ("fun" : Str) ∈ [("number" : Str), "fun", "let", "name"] from by simp) hw
      | letp r a => exact absurd (show ("let" : Str) ∈ [("number" : Str), "fun", "let", "name"] from by simp) hw
    refine g_ixT (.of ea1) (atI_of (by decide) rfl) (g_inK T (r := true) hin ?_)
    walk_at "go"
    refine g_T rfl ?_
    walk_at "go"
    refine g_seqT ?_
    walk_at "go"
    refine g_slT (.of ea1) (not_whole (by simp)) fun p3 H3 n3 e3 s3 => ?_
    rw [cut_tail] at e3
    refine g_isT (.of e3) ?_
    have ew3 := s3 _ _ ew
    have n3w : p3 ≠ wl := (ne_of_none ew n3).symm
    refine for_any xs.length (fun i σ H' => ∃ (x2 : Option V), σ = [some (.ref a), some (.ref wl), x2, none] ∧ H' wl = some (.lst ((p.word :: (p.kids.take i).flatMap Part.words).map V.str)) ∧ Chg wl H3 H')
      ⟨none, rfl, ew3, .refl⟩ (fun i σ H' hi ⟨_, _, _, c⟩ => ⟨_, _, .of (c _ _ n3w e3), List.getElem?_eq_getElem hi⟩) (fun σ H' ⟨_, _, _, c⟩ => ⟨_, .of (c _ _ n3w e3), Nat.le_refl _⟩) ?_ ?_
    · rintro i x σ _ H5 hi ⟨x2, rfl, ew5, c5⟩ ⟨rfl, hx⟩
      obtain ⟨d, hd, tx'⟩ := tx.get (hx _ (.of (c5 _ _ n3w e3)))
      rw [List.getElem?_map] at hd
      obtain ⟨p2, hp2, rfl⟩ := Option.map_eq_some_iff.mp hd
      have hpm := List.mem_of_getElem? hp2
      have hpsz := sz_mem hpm
      have hpmx := mxd_mem hpm
      walk_at "go"
      refine g_tyl (.of ew5) ?_
      walk_at "go"
      have k05 : Tk H H5 := (Same.tk (s1.trans s3)).trans (c5.tkl ew3)
      refine ⟨x, p2, rfl, tx'.mono k05, hkg p2 hpm, by omega, by omega, fun l7 H7 el7 s7 => ?_⟩
      walk_at "go"
      have hpw := (good_words (hkg p2 hpm) (by omega)).1
      have hfl := words_len (ps := p.kids.take i) (fun z hz => ⟨hkg z (List.mem_of_mem_take hz), by have := sz_mem (List.mem_of_mem_take hz); omega⟩) (by rw [List.length_take]; omega)
      refine g_extend (s7 _ _ ew5) el7 (by rw [List.length_map, List.length_map, List.length_cons]; show _ ≤ 16777216; omega) fun H8 e8 c8 => ?_
      walk_at "go"
      refine ⟨_, rfl, ?_, c5.trans ((Chg.same s7).trans c8)⟩
      rw [e8, List.take_add_one, hp2, Option.toList, List.flatMap_append]
      simp
    rintro σ H5 ⟨x2, rfl, ew5, c5⟩
    rw [hxl, List.take_length, ← hwc] at ew5
    walk_at "go"
    exact q wl H5 ew5 (Same.chg (s1.trans s3) nw c5)

/-! ### texts -/
def spText : Sp := fun vs H Q _ => ∃ (v : V) (p : Part), vs = [v] ∧ Tp H v p.data ∧ p.good ∧ p.size ≤ 60 ∧ ∀ (H' : Hp), Same H H' → Q (.str (Txt.join " " p.words)) H'
theorem pure_text {K : PySem.W.Frag} {w : World} : PureOk 1 spText (t_part_text K w (spWords 12)) 1 := by
  refine ⟨fun vs H Q E ⟨_, _, e, _⟩ => by rw [e]; rfl, ?_⟩
  rintro vs H Q E ⟨v, p, rfl, t, hg, hz, q⟩
  show t_part_text K w _ _ [some v] H
  unfold t_part_text
  walk_at "go"
  refine ⟨v, p, rfl, t, hg, hz, hg.2, fun l H1 el s1 => ?_⟩
  obtain ⟨w1, w2, _⟩ := good_words hg hz
  refine g_join (.of el) w2 w1 (by decide) ?_
  exact q H1 s1
def dots (ts : List Str) : List Str := ts.map fun x => "." ++ x
def Fn1.words (f : Fn1) : List Str := f.name :: (dots f.things ++ (("=" : Str) :: f.body.words))
def Prog.wrows (P : Prog) : List (List Str) := P.fs.map Fn1.words ++ [("?" : Str) :: P.asked.words]
def Prog.text (P : Prog) : Str := Txt.join "\n" (P.wrows.map (Txt.join " "))
theorem dot_len {x : Str} (h : isName x) : (("." : Str) ++ x).length ≤ 9 := by
  rw [Str.lenCat]
  have := h.2.1
  have : ("." : Str).length = 1 := by decide
  omega
theorem Fn1.words_ok {fs : List Str} {f : Fn1} (h : f.fine fs) : f.words.length ≤ 190 ∧ ∀ w ∈ f.words, w.length ≤ 61 := by
  obtain ⟨w1, w2, _⟩ := good_words h.body.good h.body.size
  have hf := h.few
  refine ⟨?_, fun w hw => ?_⟩
  · show (dots f.things ++ (("=" : Str) :: f.body.words)).length + 1 ≤ 190
    unfold dots
    rw [List.length_append, List.length_map, List.length_cons]
    omega
  · rcases List.mem_cons.mp hw with rfl | hw
    · have := h.nm.2.1; omega
    · rcases List.mem_append.mp hw with hw | hw
      · obtain ⟨x, hx, rfl⟩ := List.mem_map.mp hw
        have := dot_len (h.th x hx)
        omega
      · rcases List.mem_cons.mp hw with rfl | hw
        · decide
        · exact w2 w hw
theorem join_small {ws : List Str} (h1 : ws.length ≤ 190) (h2 : ∀ w ∈ ws, w.length ≤ 61) : (Txt.join " " ws).length ≤ 11780 := by
  have := join_len (y := " ") h2
  have h3 : (" " : Str).length = 1 := by decide
  rw [h3] at this
  omega
/-- [".." + x for x in t] -/
theorem dots_lc {K : PySem.W.Frag} {H : Hp} {Qd : Addr → Hp → Prop} {a : Addr} {ts : List Str} {i : Nat} {σ : L2.St} (h1 : ∀ x : V, ((wipe σ [i]).set i (some x))[i]? = some (some x)) (h2 : ∀ x : V, wipe ((wipe σ [i]).set i (some x)) [i] = wipe σ [i])
    (ea : H a = some (.tup (ts.map V.str))) (hn : ∀ x ∈ ts, isName x) (hl : ts.length ≤ 1000) (q : ∀ (l : Addr) (H' : Hp), H l = none → H' l = some (.lst ((dots ts).map V.str)) → Same H H' → Qd l H') :
    ∃ a', V.ref a = .ref a' ∧ (∃ xs, SqT K H a' xs) ∧ LcR (Itt K a') (gName i) tYes (tOp (rAddG K) (tC (.str ".")) (tVar i)) [i] σ H Qd := by
  refine g_isT (.of ea) fun dn hdn => ?_
  refine lc_any ts.length (fun j acc H' => acc = (dots (ts.take j)).map V.str ∧ Same H H') hdn
    (fun H' _ s => ⟨rfl, s⟩) (fun j acc H' hj ⟨_, s⟩ => ⟨_, _, .of (s _ _ ea), List.getElem?_eq_getElem (by rw [List.length_map]; exact hj)⟩) (fun acc H' ⟨_, s⟩ => ⟨_, .of (s _ _ ea), by rw [List.length_map]; exact Nat.le_refl _⟩) ?_ ?_
  · rintro j x acc _ H5 hj hl' ⟨rfl, s5⟩ hd5 ⟨rfl, hx⟩
    have hx' := hx _ (.of (s5 _ _ ea))
    rw [List.getElem?_map] at hx'
    obtain ⟨nm, hnm, rfl⟩ := Option.map_eq_some_iff.mp hx'
    refine g_name (σ' := (wipe σ [i]).set i (some (.str nm))) rfl ?_
    refine ⟨h2 _, ?_⟩
    refine g_yes (g_T rfl ?_)
    refine g_op (g_c (g_var (h1 _) ?_))
    refine g_addS (by have := (hn nm (List.mem_of_getElem? hnm)).2.1; have : ("." : Str).length = 1 := by decide
                      show _ ≤ 16777216; omega) ?_
    refine lc_step hd5 hl' (by show _ < 16777216; omega) fun H6 e6 c6 => ?_
    exact ⟨by rw [List.take_add_one, hnm]; simp [dots], Same.chg s5 hdn c6⟩
  rintro us H5 hd5 ⟨rfl, s5⟩
  rw [List.take_length] at hd5
  exact q dn H5 hdn hd5 s5
def spFText : Sp := fun vs H Q _ => ∃ (v : V) (fs : List Str) (f : Fn1), vs = [v] ∧ Tp H v f.data ∧ f.fine fs ∧ ∀ (H' : Hp), Same H H' → Q (.str (Txt.join " " f.words)) H'
theorem Prog.fine.rows {P : Prog} (h : P.fine) : P.wrows.length ≤ 9 ∧ ∀ r ∈ P.wrows, r.length ≤ 190 ∧ ∀ w ∈ r, w.length ≤ 61 := by
  have hfew := h.few
  refine ⟨?_, fun r hr => ?_⟩
  · show (P.fs.map Fn1.words ++ [_]).length ≤ 9
    rw [List.length_append, List.length_map, List.length_singleton]
    omega
  · rcases List.mem_append.mp hr with hr | hr
    · obtain ⟨f, hf, rfl⟩ := List.mem_map.mp hr
      exact Fn1.words_ok (h.fs f hf)
    · rw [List.mem_singleton.mp hr]
      obtain ⟨w1, w2, _⟩ := good_words h.asked.good h.asked.size
      refine ⟨by rw [List.length_cons]; omega, fun w hw => ?_⟩
      rcases List.mem_cons.mp hw with rfl | hw
      · decide
      · exact w2 w hw
theorem Prog.fine.joined {P : Prog} (h : P.fine) : ∀ s ∈ P.wrows.map (Txt.join " "), s.length ≤ 11780 := by
  intro s hs
  obtain ⟨r, hr, rfl⟩ := List.mem_map.mp hs
  obtain ⟨h1, h2⟩ := h.rows.2 r hr
  exact join_small h1 h2
def spWritten : Sp := fun vs H Q _ => ∃ (v : V) (P : Prog), vs = [v] ∧ Tp H v P.data ∧ P.fine ∧ ∀ (H' : Hp), Same H H' → Q (.str P.text) H'
/-! ### rows of words -/
/-- a list of lists of words -/
def RowsAt (H : Hp) (us : List V) (rs : List (List Str)) : Prop := us.length = rs.length ∧ ∀ (i : Nat) (r : List Str), rs[i]? = some r → ∃ l, us[i]? = some (.ref l) ∧ H l = some (.lst (r.map V.str))
def spLRows : Sp := fun vs H Q _ => ∃ (v : V) (P : Prog), vs = [v] ∧ Tp H v P.data ∧ P.fine ∧ ∀ (l : Addr) (us : List V) (H' : Hp), H' l = some (.lst us) → RowsAt H' us P.wrows → Same H H' → Q (.ref l) H'
theorem RowsAt.mono {H H' : Hp} {us : List V} {rs : List (List Str)} (h : RowsAt H us rs) (s : Same H H') : RowsAt H' us rs := ⟨h.1, fun i r hi => by
  obtain ⟨l, h1, h2⟩ := h.2 i r hi
  exact ⟨l, h1, s _ _ h2⟩⟩
def spLText : Sp := fun vs H Q _ => ∃ (l : Addr) (us : List V) (rs : List (List Str)), vs = [.ref l] ∧ H l = some (.lst us) ∧ RowsAt H us rs ∧ rs.length ≤ 9 ∧ (∀ r ∈ rs, r.length ≤ 190 ∧ ∀ w ∈ r, w.length ≤ 61) ∧ ∀ (H' : Hp), Same H H' → Q (.str (Txt.join "\n" (rs.map (Txt.join " ")))) H'
theorem SqL.to {K : PySem.W.Frag} {H H' : Hp} {a : Addr} {xs : List V} (s : Same H H') (h : SqL K H a xs) : SqL K H' a xs := h.elim (fun h => .inl (h.elim (fun h => .inl (s _ _ h)) fun ⟨o, h⟩ => .inr ⟨o, s _ _ h⟩)) .inr

/-! ### reading: words looked at, whatever they are -/
theorem tlS {s : Str} : SX.S s.cps.toList = s := SX.S_tl s
instance {s : Str} : Decidable (isName s) := by unfold isName; infer_instance
def digc (c : Nat) : Bool := decide (48 ≤ c) && decide (c ≤ 57)
def figs (s : Str) : List Nat := if s.cps.toList.take 1 = [45] then s.cps.toList.drop 1 else s.cps.toList
def isFigs (s : Str) : Bool := (decide (1 ≤ (figs s).length) && (decide ((figs s).length ≤ 60) && (figs s).all digc)) && (decide (s = "0") || !decide ((figs s)[0]? = some 48))
def isMark (s m : Str) : Bool := decide (SX.S (s.cps.toList.take 1) = m) && decide (isName (SX.S (s.cps.toList.drop 1)))
/-- a test of each sign of a text -/
theorem lc_signs {K : PySem.W.Frag} {g : TG} {te : TE} {vs : List Nat} {σ : L2.St} {H1 : Hp} {cs : List Nat} {f : Nat → Bool} {J : It} {Qd : Addr → Hp → Prop} (hJ1 : ∀ i H', i < cs.length → Same H1 H' → J.go i H') (hJ2 : ∀ H', Same H1 H' → J.stop cs.length H') (hl : cs.length ≤ 100000)
    (hs : ∀ (i : Nat) c x H' H'' (Nx : V → Hp → Prop), cs[i]? = some c → Same H1 H' → J.yld i H' x H'' → (∀ H4, Same H' H4 → Nx (.bl (f c)) H4) → g x (wipe σ vs) H'' fun σ2 H2 => wipe σ2 vs = wipe σ vs ∧ te σ2 H2 Nx)
    (hd : ∀ D H', Fr H1 D → H' D = some (.lst ((cs.map f).map V.bl)) → Same H1 H' → Qd D H') : LcR J g tYes te vs σ H1 Qd := by
  intro D hD
  refine lc_any cs.length (fun i acc H' => acc = ((cs.take i).map f).map V.bl ∧ Same H1 H') hD (fun H' _ s => ⟨by simp, s⟩) (fun i acc H' hi ⟨_, s⟩ => hJ1 i H' hi s) (fun acc H' ⟨_, s⟩ => hJ2 H' s) ?_ ?_
  · rintro i v acc H2 H' hi hla ⟨hacc, s2⟩ hd2 hy
    refine hs i cs[i] v _ _ _ (List.getElem?_eq_getElem hi) s2 hy fun H4 s4 => ?_
    refine lc_step (s4 _ _ hd2) hla (by show _ < 16777216; omega) fun H5 e5 c5 => ?_
    refine ⟨?_, Same.chg (s2.trans s4) hD c5⟩
    rw [hacc, List.take_add_one, List.getElem?_eq_getElem hi, Option.toList, List.map_append, List.map_append]
    rfl
  · rintro acc H' hd2 ⟨rfl, s⟩
    rw [List.take_length] at hd2
    exact hd D H' hD hd2 s
theorem all_map {cs : List Nat} {f : Nat → Bool} : (cs.map f).all id = cs.all f := by rw [List.all_map]; rfl
def alphc (c : Nat) : Bool := decide (97 ≤ c) && decide (c ≤ 122)
theorem alph_in (c : Nat) : (!(Builtin.Str.occurrences abc ⟨#[c]⟩ 0 abc.length 1).isEmpty) = alphc c := by
  rw [PySem.StrLaws.found_one]
  have key : ∀ l : List Nat, l = (List.range 26).map (97 + ·) → decide (c ∈ l) = alphc c := by
    intro l hl
    subst hl
    unfold alphc
    rw [← Bool.decide_and]
    refine decide_eq_decide.mpr ?_
    simp only [List.mem_map, List.mem_range]
    constructor
    · rintro ⟨k, h1, rfl⟩; omega
    · rintro ⟨h1, h2⟩; exact ⟨c - 97, by omega, by omega⟩
  exact key _ (by decide)
def figsText : Str := "0123456789"
theorem dig_in (c : Nat) : (!(Builtin.Str.occurrences figsText ⟨#[c]⟩ 0 figsText.length 1).isEmpty) = digc c := by
  rw [PySem.StrLaws.found_one]
  have key : ∀ l : List Nat, l = (List.range 10).map (48 + ·) → decide (c ∈ l) = digc c := by
    intro l hl
    subst hl
    unfold digc
    rw [← Bool.decide_and]
    refine decide_eq_decide.mpr ?_
    simp only [List.mem_map, List.mem_range]
    constructor
    · rintro ⟨k, h1, rfl⟩; omega
    · rintro ⟨h1, h2⟩; exact ⟨c - 48, by omega, by omega⟩
  exact key _ (by decide)
def spIsNameG : Sp := fun vs H Q _ => ∃ (s : Str), vs = [.str s] ∧ s.length ≤ 16777216 ∧ ∀ H', Same H H' → Q (.bl (decide (isName s))) H'
theorem pure_isnameG {K : PySem.W.Frag} {w : World} : PureOk 1 spIsNameG (t_is_name K w) 2 := by
  refine ⟨fun vs H Q E ⟨_, e, _⟩ => by rw [e]; rfl, ?_⟩
  rintro vs H Q E ⟨s, rfl, hl, q⟩
  show t_is_name K w _ [some (.str s), none] H
  unfold t_is_name
  walk_at "gg"
  refine g_isi (r := true) (.str s) (by decide +kernel) ?_
  walk_at "gg"
  refine g_chain ?_
  walk_at "gg"
  refine g_lenS hl ?_
  walk_at "gg"
  have hfin : ∀ (b : Bool), b = decide (isName s) → ∀ H', Same H H' → Q (.bl b) H' := fun b e H' s' => e ▸ q H' s'
  by_cases h1 : (1 : Int) ≤ (s.length : Int)
  · refine g_T (decide_eq_true h1) ?_
    walk_at "gg"
    by_cases h2 : (s.length : Int) ≤ 8
    · refine g_F (by rw [decide_eq_true h2]; rfl) ?_
      walk_at "gg"
      refine g_seqS ?_
      walk_at "gg"
      have hsz : s.cps.toList.length = s.length := by simp [Str.length]
      refine lc_signs (K := K) (cs := s.cps.toList) (f := alphc) (fun i H' hi _ => by show i < s.cps.size; rw [← Array.length_toList]; exact hi) (fun H' _ => by show s.cps.size ≤ _; rw [← Array.length_toList]; exact Nat.le_refl _) (by omega) ?_ ?_
      · rintro i c x H' H'' Nx hc s1 ⟨rfl, c', hc', rfl⟩ hN
        walk_at "gg"
        refine ⟨rfl, ?_⟩
        walk_at "gg"
        have e : c' = c := by
          rw [Array.getElem?_toList] at hc
          exact Option.some.inj (hc'.symm.trans hc)
        subst e
        refine .inr (.inl ⟨_, abc, rfl, rfl, ?_⟩)
        show Nx (.bl (!(Builtin.Str.occurrences abc ⟨#[c']⟩ 0 abc.length 1).isEmpty)) _
        rw [alph_in]
        exact hN _ (.refl _)
      · intro D H' nD eD s1
        walk_at "gg"
        refine ⟨D, _, rfl, SqL.of eD, ?_⟩
        rw [all_map]
        refine hfin _ ?_ H' s1
        rw [Bool.eq_iff_iff, List.all_eq_true, decide_eq_true_iff]
        unfold alphc isName
        constructor
        · intro h
          exact ⟨by omega, by omega, fun c hc => by have := h c hc; simp only [Bool.and_eq_true, decide_eq_true_iff] at this; omega⟩
        · rintro ⟨_, _, h⟩ c hc
          have := h c hc
          simp only [Bool.and_eq_true, decide_eq_true_iff]; omega
    · refine g_T (by rw [decide_eq_false h2]; rfl) ?_
      walk_at "gg"
      exact hfin _ (by rw [decide_eq_false]; unfold isName; omega) H (.refl _)
  · refine g_F (decide_eq_false h1) ?_
    walk_at "gg"
    exact hfin _ (by rw [decide_eq_false]; unfold isName; omega) H (.refl _)
theorem cut1 (s : Str) : cutS s none (some 1) = SX.S (s.cps.toList.take 1) := by
  cases h : s.cps.toList with
  | nil =>
    have e : s = SX.S [] := by rw [← h, tlS]
    rw [e]; decide +kernel
  | cons c cs =>
    have e : s = SX.S (c :: cs) := by rw [← h, tlS]
    have := cutS_to (c :: cs) 1 (by simp)
    rw [e]; exact this
theorem cut2 (s : Str) : cutS s (some 1) none = SX.S (s.cps.toList.drop 1) := by
  cases h : s.cps.toList with
  | nil =>
    have e : s = SX.S [] := by rw [← h, tlS]
    rw [e]; decide +kernel
  | cons c cs =>
    have e : s = SX.S (c :: cs) := by rw [← h, tlS]
    have := cutS_from (c :: cs) 1 (by simp)
    rw [e]; exact this
theorem lenTl (s : Str) : s.cps.toList.length = s.length := by simp [Str.length]
def spIsMark : Sp := fun vs H Q _ => ∃ (s m : Str), vs = [.str s, .str m] ∧ s.length ≤ 16777216 ∧ ∀ H', Same H H' → Q (.bl (isMark s m)) H'
theorem pure_ismark {K : PySem.W.Frag} {w : World} : PureOk 2 spIsMark (t_is_marked K w spIsNameG) 2 := by
  refine ⟨fun vs H Q E ⟨_, _, e, _⟩ => by rw [e]; rfl, ?_⟩
  rintro vs H Q E ⟨s, m, rfl, hl, q⟩
  show t_is_marked K w _ _ [some (.str s), some (.str m)] H
  unfold t_is_marked
  walk_at "gg"
  refine g_slS (by show _ ≤ 16777216; exact hl) ?_
  rw [cut1]
  walk_at "gg"
  unfold isMark at q
  by_cases h : SX.S (s.cps.toList.take 1) = m
  · rw [decide_eq_true h]
    rw [decide_eq_true h, Bool.true_and] at q
    walk_at "gg"
    refine g_slS (by show _ ≤ 16777216; exact hl) ?_
    rw [cut2]
    walk_at "gg"
    refine ⟨_, rfl, ?_, q⟩
    rw [SX.S_len, List.length_drop, lenTl]
    omega
  · rw [decide_eq_false h]
    rw [decide_eq_false h, Bool.false_and] at q
    walk_at "gg"
    exact q H (.refl _)
def spIsFigs : Sp := fun vs H Q _ => ∃ (s : Str), vs = [.str s] ∧ s.length ≤ 16777216 ∧ ∀ H', Same H H' → Q (.bl (isFigs s)) H'
theorem figs_rest {K : PySem.W.Frag} {w : World} {H : Hp} {Q : VK} {s : Str} {D : Ends} (hl : s.length ≤ 16777216) (q : ∀ H', Same H H' → Q (.bl (isFigs s)) H') (hD : D.rt = Q) : (tSeq (tIfS (tOr (tNot (tTest (tChain rLeG rLeG (tC (.int 1)) (tCB (rLenG K) (tCons (tVar 1) tNil)) (tC (.int 60))))) (tNot (tTru K (tCB (rAll K) (tCons (tLc (iSeq K (tVar 1)) (gName 2) tYes (tOp (rInG K w false) (tVar 2) (tC (.str "0123456789"))) [2]) tNil))))) (tRet (tC (.bl false))) tNext)
  (tRet (tOrT K (tOp (rEqG K) (tVar 0) (tC (.str "0"))) (tOp (rNeG K) (tIxG K w (tVar 1) (tC (.int 0))) (tC (.str "0")))))) D [some (.str s), some (.str (SX.S (figs s))), none] H := by
  subst hD
  have hfl : (figs s).length ≤ 16777216 := by
    unfold figs
    split
    · rw [List.length_drop, lenTl]; omega
    · rw [lenTl]; omega
  walk_at "gg"
  refine g_chain ?_
  walk_at "gg"
  refine g_lenS (by rw [SX.S_len]; exact hfl) ?_
  rw [SX.S_len]
  walk_at "gg"
  unfold isFigs at q
  by_cases h1 : 1 ≤ (figs s).length
  · refine g_T (decide_eq_true (by omega)) ?_
    walk_at "gg"
    rw [decide_eq_true h1, Bool.true_and] at q
    by_cases h2 : (figs s).length ≤ 60
    · refine g_F (by rw [decide_eq_true (by omega : ((figs s).length : Int) ≤ 60)]; rfl) ?_
      walk_at "gg"
      rw [decide_eq_true h2, Bool.true_and] at q
      refine g_seqS ?_
      walk_at "gg"
      refine lc_signs (K := K) (cs := figs s) (f := digc) (fun i H' hi _ => by show i < (SX.S (figs s)).cps.size; rw [← Array.length_toList]; exact hi) (fun H' _ => by show (SX.S (figs s)).cps.size ≤ _; rw [← Array.length_toList]; exact Nat.le_refl _) (by omega) ?_ ?_
      · rintro i c x H1 H2 Nx hc s1 ⟨rfl, c', hc', rfl⟩ hN
        walk_at "gg"
        refine ⟨rfl, ?_⟩
        walk_at "gg"
        have e : c' = c := by
          rw [← Array.getElem?_toList] at hc'
          exact Option.some.inj (hc'.symm.trans hc)
        subst e
        refine .inr (.inl ⟨_, figsText, rfl, rfl, ?_⟩)
        show Nx (.bl (!(Builtin.Str.occurrences figsText ⟨#[c']⟩ 0 figsText.length 1).isEmpty)) _
        rw [dig_in]
        exact hN _ (.refl _)
      · intro D H1 nD eD s1
        walk_at "gg"
        refine ⟨D, _, rfl, SqL.of eD, ?_⟩
        rw [all_map]
        by_cases h3 : (figs s).all digc = true
        · rw [h3]
          rw [h3, Bool.true_and] at q
          walk_at "gg"
          by_cases h4 : s = "0"
          · rw [decide_eq_true h4]
            rw [decide_eq_true h4, Bool.true_or] at q
            walk_at "gg"
            exact q H1 s1
          · rw [decide_eq_false h4]
            rw [decide_eq_false h4, Bool.false_or] at q
            walk_at "gg"
            obtain ⟨c, hc⟩ : ∃ c, (figs s)[0]? = some c := ⟨_, List.getElem?_eq_getElem (by omega)⟩
            refine g_ixS (by rw [SX.S_len]; exact hfl) (c := c) (atI_of (by decide) hc) ?_
            walk_at "gg"
            have e : decide ((⟨#[c]⟩ : Str) = "0") = decide ((figs s)[0]? = some 48) := by
              rw [hc]
              refine decide_eq_decide.mpr ⟨fun e => ?_, fun e => ?_⟩
              · have := congrArg (fun z : Str => z.cps.toList) e
                have h5 : [c] = [48] := this
                injection h5 with h5
                rw [h5]
              · cases e; rfl
            rw [e]
            exact q H1 s1
        · rw [Bool.not_eq_true] at h3
          rw [h3]
          rw [h3, Bool.false_and] at q
          walk_at "gg"
          exact q H1 s1
    · refine g_T (by rw [decide_eq_false (by omega : ¬ ((figs s).length : Int) ≤ 60)]; rfl) ?_
      walk_at "gg"
      rw [decide_eq_false h2, Bool.false_and, Bool.false_and] at q
      exact q H (.refl _)
  · refine g_F (decide_eq_false (by omega)) ?_
    walk_at "gg"
    rw [decide_eq_false h1, Bool.false_and, Bool.false_and] at q
    exact q H (.refl _)
theorem pure_isfigs {K : PySem.W.Frag} {w : World} : PureOk 1 spIsFigs (t_is_figures K w) 3 := by
  refine ⟨fun vs H Q E ⟨_, e, _⟩ => by rw [e]; rfl, ?_⟩
  rintro vs H Q E ⟨s, rfl, hl, q⟩
  show t_is_figures K w _ [some (.str s), none, none] H
  unfold t_is_figures
  walk_at "gg"
  refine g_slS (by show _ ≤ 16777216; exact hl) ?_
  rw [cut1]
  walk_at "gg"
  have hdl : ∀ n, (SX.S (s.cps.toList.drop n)).length ≤ 16777216 := fun n => by rw [SX.S_len, List.length_drop, lenTl]; omega
  by_cases h : SX.S (s.cps.toList.take 1) = "-"
  · refine g_T (decide_eq_true h) ?_
    walk_at "gg"
    refine g_slS (by show _ ≤ 16777216; exact hl) ?_
    rw [cut2]
    refine g_name rfl ?_
    have h2 : s.cps.toList.take 1 = [45] := by
      have := congrArg (fun z : Str => z.cps.toList) h
      exact this
    have e : s.cps.toList.drop 1 = figs s := by unfold figs; rw [if_pos h2]
    rw [e]
    exact figs_rest hl q rfl
  · refine g_F (decide_eq_false h) ?_
    have h2 : ¬ s.cps.toList.take 1 = [45] := fun e => h (by rw [e]; decide)
    refine g_var rfl ?_
    refine g_name rfl ?_
    have e : s = SX.S (figs s) := by unfold figs; rw [if_neg h2, tlS]
    have := figs_rest (K := K) (w := w) hl q (D := { nx := fun _ H' => Q .non H', rt := Q }) rfl
    rw [← e] at this
    exact this

/-! ### the reader: its state and its small methods -/
def PRc (K : PySem.W.Frag) : Addr := He.ga K "PartReader"
structure RdK (K : PySem.W.Frag) : Prop where
  c : Cls K (He.ga K "PartReader")
  row : NoAttr K (He.ga K "PartReader") "row"
  words : NoAttr K (He.ga K "PartReader") "words"
  at_ : NoAttr K (He.ga K "PartReader") "at"
  left : NoAttr K (He.ga K "PartReader") "left"
def rdF (row : Int) (wl : Addr) (i n : Int) : List (Str × V) := [("row", .int row), ("words", .ref wl), ("at", .int i), ("left", .int n)]
theorem rdF_at {row : Int} {wl : Addr} {i n j : Int} : putF "at" (.int j) (rdF row wl i n) = rdF row wl j n := rfl
theorem rdF_left {row : Int} {wl : Addr} {i n j : Int} : putF "left" (.int j) (rdF row wl i n) = rdF row wl i j := rfl
/-- the reader at a: of these words, at the i-th one, with room for n parts more -/
structure RdAt (K : PySem.W.Frag) (H : Hp) (a : Addr) (ws : List Str) (i n : Nat) (dx wl : Addr) (row : Int) : Prop where
  at_ : H a = some (.ins (He.ga K "PartReader") dx (rdF row wl i n))
  wl : H wl = some (.lst (ws.map V.str))
  few : ws.length ≤ 100000
theorem RdAt.same {K : PySem.W.Frag} {H H' : Hp} {a dx wl : Addr} {ws : List Str} {i n : Nat} {row : Int} (r : RdAt K H a ws i n dx wl row) (s : Same H H') : RdAt K H' a ws i n dx wl row := ⟨s _ _ r.at_, s _ _ r.wl, r.few⟩
theorem RdAt.ne {K : PySem.W.Frag} {H : Hp} {a dx wl : Addr} {ws : List Str} {i n : Nat} {row : Int} (r : RdAt K H a ws i n dx wl row) : wl ≠ a := fun e => by
  have h1 := r.at_
  have h2 := r.wl
  rw [e, h1] at h2
  cases h2
def spNo : Sp := fun _ _ _ _ => False
theorem pure_no {n m : Nat} {t : TS} : PureOk n spNo t m := ⟨fun _ _ _ _ h => h.elim, fun _ _ _ _ h => h.elim⟩
def spNow (K : PySem.W.Frag) : Sp := fun vs H Q _ => ∃ (a dx wl : Addr) (ws : List Str) (i n : Nat) (row : Int) (s : Str), vs = [.ref a] ∧ RdAt K H a ws i n dx wl row ∧ ws[i]? = some s ∧ Q (.str s) H
theorem pure_now {K : PySem.W.Frag} {w : World} (R : RdK K) : PureOk 1 (spNow K) (t_PartReader_now K w spNo) 1 := by
  refine ⟨fun vs H Q E ⟨_, _, _, _, _, _, _, _, e, _⟩ => by rw [e]; rfl, ?_⟩
  rintro vs H Q E ⟨a, dx, wl, ws, i, n, row, s, rfl, r, hs, q⟩
  show t_PartReader_now K w _ _ [some (.ref a)] H
  unfold t_PartReader_now
  have hc := R.c
  have h1 := R.words
  have h2 := R.at_
  have ea := r.at_
  have ew := r.wl
  have hi := (List.getElem?_eq_some_iff.mp hs).1
  have hf := r.few
  walk_at "gg"
  refine g_F (decide_eq_false (p := ((i : Int) = ((ws.map V.str).length : Int))) (by rw [List.length_map]; omega)) ?_
  walk_at "gg"
  refine g_ixL (.of ew) (v := .str s) (atI_of (by omega) (by rw [Int.toNat_natCast, List.getElem?_map, hs]; rfl)) ?_
  exact q
theorem cps_dot {x : Str} : (("." : Str) ++ x).cps.toList = 46 :: x.cps.toList := TL.tl_append "." x
theorem cps_col {x : Str} : ((":" : Str) ++ x).cps.toList = 58 :: x.cps.toList := TL.tl_append ":" x
theorem mark_dot {x : Str} (h : isName x) : isMark ("." ++ x) "." = true := by
  unfold isMark
  rw [cps_dot]
  show (decide (SX.S [46] = ".") && decide (isName (SX.S x.cps.toList))) = true
  rw [tlS, decide_eq_true h]
  decide
theorem mark_col {x : Str} (h : isName x) : isMark (":" ++ x) ":" = true := by
  unfold isMark
  rw [cps_col]
  show (decide (SX.S [58] = ":") && decide (isName (SX.S x.cps.toList))) = true
  rw [tlS, decide_eq_true h]
  decide
theorem cut_dot {x : Str} : cutS ("." ++ x) (some 1) none = x := by rw [cut2, cps_dot]; exact tlS
theorem cut_col {x : Str} : cutS (":" ++ x) (some 1) none = x := by rw [cut2, cps_col]; exact tlS
/-- a mark's name, one further -/
def spMark (K : PySem.W.Frag) : Sp := fun vs H Q _ => ∃ (a dx wl : Addr) (ws : List Str) (i n : Nat) (row : Int) (x : Str), vs = [.ref a] ∧ RdAt K H a ws i n dx wl row ∧ ws[i]? = some ("." ++ x) ∧ isName x ∧
  ∀ H', RdAt K H' a ws (i + 1) n dx wl row → Chg a H H' → Q (.str x) H'
theorem pure_mark {K : PySem.W.Frag} {w : World} (R : RdK K) : PureOk 1 (spMark K) (t_PartReader_mark K w (spNow K) spIsMark spNo) 2 := by
  refine ⟨fun vs H Q E ⟨_, _, _, _, _, _, _, _, e, _⟩ => by rw [e]; rfl, ?_⟩
  rintro vs H Q E ⟨a, dx, wl, ws, i, n, row, x, rfl, r, hs, hx, q⟩
  show t_PartReader_mark K w _ _ _ _ [some (.ref a), none] H
  unfold t_PartReader_mark
  have hc := R.c
  have h2 := R.at_
  have ea := r.at_
  have hl : (("." : Str) ++ x).length ≤ 9 := dot_len hx
  walk_at "gg"
  refine ⟨a, dx, wl, ws, i, n, row, _, rfl, r, hs, ?_⟩
  walk_at "gg"
  refine ⟨_, _, rfl, by omega, fun H1 s1 => ?_⟩
  rw [mark_dot hx]
  walk_at "gg"
  refine g_sfldr (s1 _ _ ea) hc h2 (by show 4 < 1000; decide) rdF_at fun H2 e2 c2 => ?_
  walk_at "gg"
  refine g_slS (by show _ ≤ 16777216; omega) ?_
  rw [cut_dot]
  have c02 : Chg a H H2 := (Chg.same s1).trans c2
  exact q H2 ⟨e2, c02 _ _ r.ne r.wl, r.few⟩ c02
def isKnown (s : Str) : Bool := isFigs s || (isMark s "." || isMark s ":")
def spBegin (K : PySem.W.Frag) : Sp := fun vs H Q _ => ∃ (a dx wl : Addr) (ws : List Str) (i n d : Nat) (row : Int) (s : Str), vs = [.ref a, .int d] ∧ RdAt K H a ws i (n + 1) dx wl row ∧ ws[i]? = some s ∧ s.length ≤ 640 ∧ d ≤ 12 ∧
  (isKnown s = true ∨ (PARTSkvs.find? fun q => decide (q.1 = s)).isSome = true ∨ s = "let") ∧ ∀ H', RdAt K H' a ws (i + 1) n dx wl row → Chg a H H' → Q (.str s) H'
theorem g_inK' {K : PySem.W.Frag} {w : World} {d : Addr} {kvs : List (Str × V)} {z : Str} {H : Hp} {Q : VK} (T : KTab K w d kvs) {r : Bool} (e : (kvs.find? fun q => decide (q.1 = z)).isSome = r) (q : Q (.bl (!r)) H) : rInG K w true (.str z) (.ref d) H Q :=
  .inr (.inr (.inr ⟨z, d, _, rfl, rfl, T z, by subst e; simpa using q⟩))
theorem begin_rest {K : PySem.W.Frag} {w : World} (T : KTab K w (He.ga K "PARTS") PARTSkvs) (R : RdK K) {H : Hp} {Q : VK} {D : Ends} {a dx wl : Addr} {ws : List Str} {i n d : Nat} {row : Int} {s : Str} (r : RdAt K H a ws i (n + 1) dx wl row) (hd : d ≤ 12)
    (hk : isKnown s = true ∨ (PARTSkvs.find? fun q => decide (q.1 = s)).isSome = true ∨ s = "let") (q : ∀ H', RdAt K H' a ws (i + 1) n dx wl row → Chg a H H' → Q (.str s) H') (hD : D.rt = Q) :
    (tSeq (tIfS (tOr (tTest (tOp rGtG (tVar 1) (tC (.int 12)))) (tOr (tTest (tOp (rEqG K) (tFld K (tVar 0) "left") (tC (.int 0)))) (tAnd (tNot (tTru K (tVar 3))) (tAnd (tTest (tOp (rInG K w true) (tVar 2) (tC (.ref (He.ga K "PARTS"))))) (tTest (tOp (rNeG K) (tVar 2) (tC (.str "let")))))))) (tDrop (tMeth (He.ga K "PartReader") "refuse" spNo [] E0 (tVar 0) tNil)) tNext)
  (tSeq (sFld K (tVar 0) (tOp rSubG (tFld K (tVar 0) "left") (tC (.int 1))) "left")
  (tSeq (sFld K (tVar 0) (tOp (rAddG K) (tFld K (tVar 0) "at") (tC (.int 1))) "at")
  (tRet (tVar 2))))) D [some (.ref a), some (.int d), some (.str s), some (.bl (isKnown s))] H := by
  subst hD
  have hc := R.c
  have h2 := R.at_
  have h3 := R.left
  have ea := r.at_
  have hw : ∀ kv H2, H2 a = some (.ins (He.ga K "PartReader") dx (rdF row wl i ((((n + 1 : Nat) : Int)) - 1))) → Chg a H H2 →
      tSeq (sFld K (tVar 0) (tOp (rAddG K) (tFld K (tVar 0) "at") (tC (.int 1))) "at") (tRet (tVar 2)) D [some (.ref a), some (.int d), some (.str s), some (.bl kv)] H2 := by
    intro kv H2 e2 c2
    rw [show (((n + 1 : Nat) : Int) - 1) = (n : Int) from by omega] at e2
    walk_at "gg"
    refine g_sfldr e2 hc h2 (by show 4 < 1000; decide) rdF_at fun H3 e3 c3 => ?_
    walk_at "gg"
    have c := c2.trans c3
    exact q H3 ⟨e3, c _ _ r.ne r.wl, r.few⟩ c
  walk_at "gg"
  refine g_F (decide_eq_false (by omega)) ?_
  walk_at "gg"
  cases hkn : isKnown s with
  | true =>
    walk_at "gg"
    exact g_sfldr ea hc h3 (by show 4 < 1000; decide) rdF_left fun H2 e2 c2 => hw _ H2 e2 c2
  | false =>
    walk_at "gg"
    rcases hk with hk | hk | hk
    · rw [hkn] at hk; cases hk
    · refine g_inK' T (r := true) hk ?_
      walk_at "gg"
      exact g_sfldr ea hc h3 (by show 4 < 1000; decide) rdF_left fun H2 e2 c2 => hw _ H2 e2 c2
    · subst hk
      refine g_inK' T (r := false) (by decide +kernel) ?_
      walk_at "gg"
      exact g_sfldr ea hc h3 (by show 4 < 1000; decide) rdF_left fun H2 e2 c2 => hw _ H2 e2 c2
theorem pure_begin {K : PySem.W.Frag} {w : World} (T : KTab K w (He.ga K "PARTS") PARTSkvs) (R : RdK K) : PureOk 2 (spBegin K) (t_PartReader_begin K w (spNow K) spIsFigs spIsMark spNo) 4 := by
  refine ⟨fun vs H Q E ⟨_, _, _, _, _, _, _, _, _, e, _⟩ => by rw [e]; rfl, ?_⟩
  rintro vs H Q E ⟨a, dx, wl, ws, i, n, d, row, s, rfl, r, hs, hl, hd, hk, q⟩
  show t_PartReader_begin K w _ _ _ _ _ [some (.ref a), some (.int d), none, none] H
  unfold t_PartReader_begin
  have ea := r.at_
  walk_at "gg"
  refine ⟨a, dx, wl, ws, i, n + 1, row, _, rfl, r, hs, ?_⟩
  walk_at "gg"
  refine ⟨s, rfl, by omega, fun H1 s1 => ?_⟩
  have fin : ∀ H1, Same H H1 → ∀ D : Ends, D.rt = Q → _ := fun H1 s1 D hD => begin_rest (w := w) (Q := Q) (d := d) T R (r.same s1) hd hk (fun H' r' c => q H' r' ((Chg.same s1).trans c)) hD
  have e : isKnown s = (isFigs s || (isMark s "." || isMark s ":")) := rfl
  cases h1 : isFigs s with
  | true =>
    rw [h1, Bool.true_or] at e
    rw [e] at fin
    walk_at "g1"
    exact fin H1 s1 _ rfl
  | false =>
    rw [h1, Bool.false_or] at e
    walk_at "gg"
    refine ⟨s, _, rfl, by omega, fun H2 s2 => ?_⟩
    cases h2 : isMark s "." with
    | true =>
      rw [h2, Bool.true_or] at e
      rw [e] at fin
      walk_at "g1"
      exact fin H2 (s1.trans s2) _ rfl
    | false =>
      rw [h2, Bool.false_or] at e
      walk_at "gg"
      refine ⟨s, _, rfl, by omega, fun H3 s3 => ?_⟩
      rw [← e]
      walk_at "g1"
      exact fin H3 (s1.trans (s2.trans s3)) _ rfl

/-! ### numbers' texts -/
theorem ofS_cps (s : String) : (Str.ofString s).cps.toList = s.toList.map Char.toNat := by
  rw [Str.ofString_eq_toList]
theorem numS_nat (m : Nat) : (numS (m : Int)).cps.toList = TL.numL m := TL.tl_num m
theorem numS_neg (m : Nat) : (numS (Int.negSucc m)).cps.toList = 45 :: TL.numL (m + 1) := by
  have h3 : toString (Int.negSucc m) = "-" ++ toString ((m + 1 : Nat) : Int) := rfl
  unfold numS
  rw [h3, ofS_cps, String.toList_append, List.map_append]
  have h4 := TL.tl_num (m + 1)
  have h5 : (Str.ofString (toString ((m + 1 : Nat) : Int))).cps.toList = TL.numL (m + 1) := h4
  rw [ofS_cps] at h5
  rw [h5]
  rfl
theorem numL_head : ∀ (m : Nat), m ≠ 0 → (TL.numL m)[0]? ≠ some 48 := by
  intro m
  induction m using Nat.strongRecOn with
  | _ m ih =>
    intro hm
    by_cases h : m < 10
    · rw [TL.numL_lt h]
      intro e
      have : 48 + m = 48 := Option.some.inj e
      omega
    · rw [TL.numL_step (by omega)]
      have hne := TL.numL_ne (m / 10)
      cases hq : TL.numL (m / 10) with
      | nil => exact absurd hq hne
      | cons c cs =>
        have := ih (m / 10) (by omega) (by omega)
        rw [hq] at this
        exact this
theorem numL_dig (m : Nat) : (TL.numL m).all digc = true := by
  rw [List.all_eq_true]
  intro c hc
  have := TL.numL_digits m c hc
  unfold digc
  simp only [Bool.and_eq_true, decide_eq_true_iff]
  omega
theorem figs_nat (m : Nat) : figs (numS (m : Int)) = TL.numL m := by
  unfold figs
  rw [numS_nat]
  rw [if_neg]
  intro e
  cases hq : TL.numL m with
  | nil => rw [hq] at e; cases e
  | cons c cs =>
    rw [hq] at e
    have h1 : c = 45 := by
      have : [c] = [45] := e
      injection this
    have := TL.numL_digits m c (by rw [hq]; simp)
    omega
theorem figs_neg (m : Nat) : figs (numS (Int.negSucc m)) = TL.numL (m + 1) := by
  unfold figs
  rw [numS_neg, if_pos (show List.take 1 (45 :: TL.numL (m + 1)) = [45] from rfl)]
  rfl
theorem num_figs {n : Int} (h : n.natAbs < 10 ^ 60) : isFigs (numS n) = true := by
  unfold isFigs
  cases n with
  | ofNat m =>
    show ((decide (1 ≤ (figs (numS (m : Int))).length) && (decide ((figs (numS (m : Int))).length ≤ 60) && (figs (numS (m : Int))).all digc)) && (decide (numS (m : Int) = "0") || !decide ((figs (numS (m : Int)))[0]? = some 48))) = true
    have e := figs_nat m
    revert e
    generalize figs (numS (m : Int)) = l
    rintro rfl
    rw [numL_dig]
    have h1 : 1 ≤ (TL.numL m).length := List.length_pos_iff.mpr (TL.numL_ne m)
    have h2 : (TL.numL m).length ≤ 60 := TL.numL_len (by decide) h
    rw [decide_eq_true h1, decide_eq_true h2]
    by_cases h0 : m = 0
    · subst h0; decide
    · rw [decide_eq_false (numL_head m h0)]; simp
  | negSucc m =>
    have e := figs_neg m
    revert e
    generalize figs (numS (Int.negSucc m)) = l
    rintro rfl
    rw [numL_dig]
    have h1 : 1 ≤ (TL.numL (m + 1)).length := List.length_pos_iff.mpr (TL.numL_ne _)
    have h2 : (TL.numL (m + 1)).length ≤ 60 := TL.numL_len (by decide) h
    rw [decide_eq_true h1, decide_eq_true h2, decide_eq_false (numL_head (m + 1) (by omega))]
    simp
theorem num_int {n : Int} (h : n.natAbs < 10 ^ 60) : PySem.intText? (numS n) = some n := by
  cases n with
  | ofNat m => exact TL.int_num (Nat.le_trans (TL.numL_len (k := 60) (by decide) h) (by decide))
  | negSucc m =>
    have h1 : (numS (Int.negSucc m)).length ≤ 4300 := Nat.le_trans (numS_len h) (by decide)
    rw [PySem.intText_neg (numS_neg m) (TL.numL_digits _) (TL.numL_ne _) h1]
    rw [show NumText.digitsVal (TL.numL (m + 1)) = m + 1 from TL.numL_val _]
    rfl
theorem num_first {n : Int} : ∃ c, (numS n).cps.toList[0]? = some c ∧ c < 58 ∧ c ≠ 46 := by
  cases n with
  | ofNat m =>
    show ∃ c, (numS (m : Int)).cps.toList[0]? = some c ∧ c < 58 ∧ c ≠ 46
    rw [numS_nat]
    cases hq : TL.numL m with
    | nil => exact absurd hq (TL.numL_ne m)
    | cons c cs =>
      have := TL.numL_digits m c (by rw [hq]; simp)
      exact ⟨c, rfl, by omega, by omega⟩
  | negSucc m =>
    rw [numS_neg]
    exact ⟨45, rfl, by decide, by decide⟩

/-! ### the reader: parts -/
theorem RdAt.chg {K : PySem.W.Frag} {H H' : Hp} {a b dx wl : Addr} {ws : List Str} {i n : Nat} {row : Int} (r : RdAt K H a ws i n dx wl row) (c : Chg b H H') (h1 : a ≠ b) (h2 : wl ≠ b) : RdAt K H' a ws i n dx wl row := ⟨c _ _ h1 r.at_, c _ _ h2 r.wl, r.few⟩
theorem RdAt.tk {K : PySem.W.Frag} {H H' : Hp} {a dx wl : Addr} {ws : List Str} {i n : Nat} {row : Int} (r : RdAt K H a ws i n dx wl row) (c : Chg a H H') : Tk H H' := c.tk fun xs e => by rw [r.at_] at e; cases e
/-- these words stand from the i-th on -/
def Ahead (ws : List Str) (i : Nat) (xs : List Str) : Prop := xs <+: ws.drop i
theorem Ahead.head {ws xs : List Str} {i : Nat} {x : Str} (h : Ahead ws i (x :: xs)) : ws[i]? = some x ∧ Ahead ws (i + 1) xs := by
  obtain ⟨t, ht⟩ := h
  constructor
  · have := congrArg (fun l => l[0]?) ht
    rw [List.getElem?_drop] at this
    exact this.symm
  · refine ⟨t, ?_⟩
    have := congrArg (fun l => l.drop 1) ht
    rw [List.drop_drop] at this
    exact this
theorem Ahead.app {ws xs ys : List Str} {i : Nat} (h : Ahead ws i (xs ++ ys)) : Ahead ws i xs ∧ Ahead ws (i + xs.length) ys := by
  obtain ⟨t, ht⟩ := h
  refine ⟨⟨ys ++ t, by rw [← List.append_assoc]; exact ht⟩, ⟨t, ?_⟩⟩
  have := congrArg (fun l => l.drop xs.length) ht
  rw [List.drop_drop, List.append_assoc, List.drop_left] at this
  exact this
def spRPart (K : PySem.W.Frag) (m : Nat) : Sp := fun vs H Q _ => ∃ (a dx wl : Addr) (ws : List Str) (i n d : Nat) (row : Int) (p : Part), vs = [.ref a, .int d] ∧ RdAt K H a ws i (n + p.size) dx wl row ∧ Ahead ws i p.words ∧ p.good ∧ p.size ≤ 60 ∧ p.deep ≤ m ∧ d + p.deep ≤ 13 ∧
  ∀ (v : V) (H' : Hp), Tp H' v p.data → RdAt K H' a ws (i + p.words.length) n dx wl row → Chg a H H' → Q v H'
def spRRows (K : PySem.W.Frag) (m : Nat) : Sp := fun vs H Q _ => ∃ (a dx wl : Addr) (ws : List Str) (i n d : Nat) (row : Int) (r : Rows), vs = [.ref a, .int d] ∧ RdAt K H a ws i (n + r.size) dx wl row ∧ Ahead ws i (numS r.list.length :: r.words) ∧ 1 ≤ r.list.length ∧ r.list.length ≤ 4 ∧
  (∀ q ∈ r.list, isName q.1 ∧ q.2.good ∧ q.2.size ≤ 60 ∧ q.2.deep ≤ m ∧ d + q.2.deep ≤ 13) ∧
  ∀ (v : V) (H' : Hp), Tp H' v (.tuple r.datas) → RdAt K H' a ws (i + 1 + r.words.length) n dx wl row → Chg a H H' → Q v H'
def rsz (l : List (Str × Part)) : Nat := (l.map fun q => q.2.size).sum
theorem Rows.list_rsz : ∀ r : Rows, r.size = rsz r.list
  | .nil => rfl
  | .cons x a r => by
    show a.size + r.size = _
    rw [Rows.list_rsz r]
    rfl
theorem sz_sum : ∀ l : List Part, sz l = (l.map Part.size).sum
  | [] => rfl
  | p :: l => by
    show p.size + sz l = _
    rw [sz_sum l]
    rfl
theorem sum_take {α : Type} {f : α → Nat} {l : List α} {i : Nat} {x : α} (h : l[i]? = some x) : ((l.drop i).map f).sum = f x + ((l.drop (i + 1)).map f).sum := by
  have hi := (List.getElem?_eq_some_iff.mp h)
  obtain ⟨h1, h2⟩ := hi
  rw [List.drop_eq_getElem_cons h1, h2, List.map_cons, List.sum_cons]
theorem drop_flat {α : Type} {f : α → List Str} {l : List α} {i : Nat} {x : α} (h : l[i]? = some x) : (l.drop i).flatMap f = f x ++ (l.drop (i + 1)).flatMap f := by
  obtain ⟨h1, h2⟩ := List.getElem?_eq_some_iff.mp h
  rw [List.drop_eq_getElem_cons h1, h2, List.flatMap_cons]
theorem take_flat {α : Type} {f : α → List Str} {l : List α} {i : Nat} {x : α} (h : l[i]? = some x) : (l.take (i + 1)).flatMap f = (l.take i).flatMap f ++ f x := by
  rw [List.take_add_one, h, List.flatMap_append]
  simp
theorem few_num {n : Nat} (h1 : 1 ≤ n) (h2 : n ≤ 4) : inV (.str (numS n)) [.str "1", .str "2", .str "3", .str "4"] = true := by
  rcases (by omega : n = 1 ∨ n = 2 ∨ n = 3 ∨ n = 4) with rfl | rfl | rfl | rfl <;> decide
theorem g_slTw {K : PySem.W.Frag} {H : Hp} {Q : VK} {p : Addr} {xs : List V} {lo hi : Option Int} (h : H p = some (.tup xs)) (hw : HT.sIx xs.length 0 lo = 0 ∧ HT.sIx xs.length xs.length hi = xs.length) (q : Q (.ref p) H) : rSlG K (.ref p) lo hi H Q :=
  .inr (.inl ⟨p, xs, rfl, .of h, fun _ => q, fun z => absurd hw z⟩)
theorem pure_letrows {K : PySem.W.Frag} {w : World} (R : RdK K) {m : Nat} : PureOk 2 (spRRows K m) (t_PartReader_let_rows K w (spNow K) spNo (spMark K) (spRPart K m)) 6 := by
  refine ⟨fun vs H Q E ⟨_, _, _, _, _, _, _, _, _, e, _⟩ => by rw [e]; rfl, ?_⟩
  rintro vs H Q E ⟨a, dx, wl, ws, i, n, d, row, r, rfl, rd, hw, h1, h4, hr, q⟩
  show t_PartReader_let_rows K w _ _ _ _ _ [some (.ref a), some (.int d), none, none, none, none] H
  unfold t_PartReader_let_rows
  have hc := R.c
  have hat := R.at_
  have ea := rd.at_
  obtain ⟨hw1, hw2⟩ := hw.head
  rw [Rows.list_words] at hw2
  walk_at "gg"
  refine ⟨a, dx, wl, ws, i, _, row, _, rfl, rd, hw1, ?_⟩
  walk_at "gg"
  rename_i t1 H1 n1 e1 s1
  refine g_slTw e1 ⟨by decide, by decide⟩ ?_
  refine g_notInX e1 rfl (few_num h1 h4) ?_
  walk_at "gg"
  refine g_sfldr (s1 _ _ ea) hc hat (by show 4 < 1000; decide) rdF_at fun H2 e2 c2 => ?_
  have c02 : Chg a H H2 := (Chg.same s1).trans c2
  have rd2 : RdAt K H2 a ws (i + 1) (n + r.size) dx wl row := ⟨e2, c02 _ _ rd.ne rd.wl, rd.few⟩
  walk_at "gg"
  rename_i fl H3 n3 e3 s3
  refine g_intT (num_int (by show (r.list.length : Int).natAbs < _; omega)) (Nat.le_trans (numS_len (by show (r.list.length : Int).natAbs < _; omega)) (by decide)) ?_
  refine g_isrng (by omega) (by omega) ?_
  rw [Int.toNat_natCast]
  have hnf : fl ≠ a := (ne_of_none e2 n3).symm
  have hnw : fl ≠ wl := (ne_of_none rd2.wl n3).symm
  refine for_any r.list.length (fun j σ H' => ∃ (x4 x5 : Option V) (us : List V), σ = [some (.ref a), some (.int d), some (.str (numS r.list.length)), some (.ref fl), x4, x5] ∧ H' fl = some (.lst us) ∧ us.length = j ∧ Tps H' us ((r.list.take j).map rowD) ∧
      RdAt K H' a ws (i + 1 + ((r.list.take j).flatMap rwords).length) (n + rsz (r.list.drop j)) dx wl row ∧ Ahead ws (i + 1 + ((r.list.take j).flatMap rwords).length) ((r.list.drop j).flatMap rwords) ∧ (∀ b o, b ≠ a → b ≠ fl → H b = some o → H' b = some o))
    ⟨none, none, [], rfl, e3, rfl, .nil, by
      have := rd2.same s3
      rw [Rows.list_rsz] at this
      exact this, hw2, fun b o hb _ e => s3 _ _ (c02 _ _ hb e)⟩ (fun j σ H' hj _ => hj) (fun σ H' _ => Nat.le_refl _) ?_ ?_
  · rintro j x σ _ H5 hj ⟨x4, x5, us, rfl, ef, hul, tus, rd5, hw5, fr⟩ ⟨rfl, rfl⟩
    obtain ⟨qq, hq⟩ : ∃ q, r.list[j]? = some q := ⟨_, List.getElem?_eq_getElem hj⟩
    obtain ⟨hn, hg, hz, hdp, hdd⟩ := hr qq (List.mem_of_getElem? hq)
    rw [drop_flat hq] at hw5
    obtain ⟨hw6, hw7⟩ := hw5.app
    obtain ⟨hw8, hw9⟩ := Ahead.head (xs := qq.2.words) hw6
    have ea5 := rd5.at_
    walk_at "gg"
    refine ⟨a, dx, wl, ws, _, _, row, qq.1, rfl, rd5, hw8, hn, fun H6 rd6 c6 => ?_⟩
    have ea6 := rd6.at_
    have ef6 := c6 _ _ hnf ef
    walk_at "gg"
    have hsz : n + rsz (r.list.drop j) = n + rsz (r.list.drop (j + 1)) + qq.2.size := by
      unfold rsz
      rw [sum_take hq]
      omega
    rw [hsz] at rd6
    refine ⟨a, dx, wl, ws, _, _, d, row, qq.2, rfl, rd6, hw9, hg, hz, hdp, hdd, fun v H7 tv rd7 c7 => ?_⟩
    have ef7 := c7 _ _ hnf ef6
    walk_at "gg"
    rename_i t8 H8 n8 e8 s8
    have ef8 := s8 _ _ ef7
    refine g_append ef8 (by rw [hul]; show _ < 16777216; omega) fun H9 e9 c9 => ?_
    walk_at "gg"
    have k57 : Tk H5 H7 := (rd5.tk c6).trans (rd6.tk c7)
    have k89 : Tk H8 H9 := c9.tkl ef8
    have k79 : Tk H7 H9 := (Same.tk s8).trans k89
    refine ⟨_, _, us ++ [.ref t8], rfl, e9, by rw [List.length_append, hul]; rfl, ?_, ?_, ?_, ?_⟩
    · rw [List.take_add_one, hq, Option.toList, List.map_append]
      refine (tus.mono (k57.trans k79)).append (.one ?_)
      exact .tup (k89 _ _ e8) (.cons (.str _) (.one (tv.mono k79)))
    · rw [take_flat hq, List.length_append]
      have := (rd7.same s8).chg c9 hnf.symm hnw.symm
      rw [show i + 1 + (((r.list.take j).flatMap rwords).length + (rwords qq).length) = i + 1 + ((r.list.take j).flatMap rwords).length + 1 + qq.2.words.length from by
        show _ + (_ + (qq.2.words.length + 1)) = _
        omega]
      exact this
    · rw [take_flat hq, List.length_append, ← Nat.add_assoc]
      exact hw7
    · intro b o hb hbf e
      exact c9 _ _ hbf (s8 _ _ (c7 _ _ hb (c6 _ _ hb (fr b o hb hbf e))))
  rintro σ H5 ⟨x4, x5, us, rfl, ef, hul, tus, rd5, hw5, fr⟩
  rw [List.take_length] at tus rd5
  walk_at "gg"
  rename_i t6 H6 n6 e6 s6
  refine q (.ref t6) H6 ?_ ?_ ?_
  · rw [Rows.list_datas]
    exact .tup e6 (tus.mono (Same.tk s6))
  · rw [Rows.list_words]
    have := rd5.same s6
    rw [List.drop_length] at this
    exact this
  · intro b o hb e
    have hbf : b ≠ fl := fun z => by
      subst z
      rw [c02.free hb n3] at e
      cases e
    exact s6 _ _ (fr b o hb hbf e)
theorem PARTS_len {p : Part} (hw : plainWord p.word) (hs : p.word ≠ "shut") : (PARTSkvs.find? fun q => decide (q.1 = p.word)).map (·.2) = some (.int p.kids.length) := by
  cases p with
  | one k a => cases k <;> rfl
  | two k a b => cases k <;> rfl
  | whn a b c => rfl
  | shut a => exact absurd rfl hs
  | num n => exact absurd (show ("number" : Str) ∈ [("number" : Str), "fun", "let", "name"] from by simp) hw
  | name n => exact absurd (show ("name" : Str) ∈ [("number" : Str), "fun", "let", "name"] from by simp) hw
  | fn n => exact absurd (show ("fun" : Str) ∈ [("number" : Str), "fun", "let", "name"] from by simp) hw
  | letp r a => exact absurd (show ("let" : Str) ∈ [("number" : Str), "fun", "let", "name"] from by simp) hw
theorem kids_ne {p : Part} (hw : plainWord p.word) (hs : p.word ≠ "shut") : p.kids ≠ [] := by
  cases p with
  | shut a => exact absurd rfl hs
  | num n => exact absurd (show ("number" : Str) ∈ [("number" : Str), "fun", "let", "name"] from by simp) hw
  | name n => exact absurd (show ("name" : Str) ∈ [("number" : Str), "fun", "let", "name"] from by simp) hw
  | fn n => exact absurd (show ("fun" : Str) ∈ [("number" : Str), "fun", "let", "name"] from by simp) hw
  | letp r a => exact absurd (show ("let" : Str) ∈ [("number" : Str), "fun", "let", "name"] from by simp) hw
  | _ => simp [Part.kids]
theorem word_short {p : Part} : p.word.length ≤ 640 := by
  cases p with
  | one k a => exact Nat.le_trans k.word_len (by decide)
  | two k a b => exact Nat.le_trans k.word_len (by decide)
  | num n => show ("number" : Str).length ≤ 640; decide
  | name n => show ("name" : Str).length ≤ 640; decide
  | fn n => show ("fun" : Str).length ≤ 640; decide
  | whn a b c => show ("when" : Str).length ≤ 640; decide
  | letp r a => show ("let" : Str).length ≤ 640; decide
  | shut a => show ("shut" : Str).length ≤ 640; decide
theorem not_parts (s : Str) (h : ∀ q ∈ PARTSkvs, q.1.cps.toList[0]? ≠ s.cps.toList[0]?) : (PARTSkvs.find? fun q => decide (q.1 = s)).isSome = false := by
  rw [Option.isSome_eq_false_iff, Option.isNone_iff_eq_none, List.find?_eq_none]
  intro q hq e
  have := of_decide_eq_true e
  exact h q hq (by rw [this])
theorem parts_first : ∀ q ∈ PARTSkvs, ∃ c, q.1.cps.toList[0]? = some c ∧ 58 < c := by
  have : PARTSkvs.all (fun q => match q.1.cps.toList[0]? with | some c => decide (58 < c) | none => false) = true := by decide +kernel
  intro q hq
  have := List.all_eq_true.mp this q hq
  cases h : q.1.cps.toList[0]? with
  | none => rw [h] at this; cases this
  | some c => rw [h] at this; exact ⟨c, rfl, of_decide_eq_true this⟩
/-- a word whose first sign is no letter is no kind's -/
theorem low_word {s : Str} {c : Nat} (h : s.cps.toList[0]? = some c) (hc : c ≤ 58) : (PARTSkvs.find? fun q => decide (q.1 = s)).isSome = false ∧ s ≠ "let" := by
  refine ⟨not_parts s fun q hq e => ?_, fun e => ?_⟩
  · obtain ⟨c', h1, h2⟩ := parts_first q hq
    rw [h1, h] at e
    cases e
    omega
  · rw [e] at h
    have : c = 108 := (Option.some.inj h).symm
    omega
theorem Part.good.deep {p : Part} (h : p.good) : p.deep ≤ 12 := h.2
theorem pure_rpart {K : PySem.W.Frag} {w : World} (T : KTab K w (He.ga K "PARTS") PARTSkvs) (R : RdK K) {m : Nat} : PureOk 2 (spRPart K (m + 1)) (t_PartReader_part K w (spBegin K) (spRPart K m) (spRRows K m)) 5 := by
  refine ⟨fun vs H Q E ⟨_, _, _, _, _, _, _, _, _, e, _⟩ => by rw [e]; rfl, ?_⟩
  rintro vs H Q E ⟨a, dx, wl, ws, i, n, d, row, p, rfl, rd, hw, hg, hz, hm, hd, q⟩
  show t_PartReader_part K w _ _ _ _ [some (.ref a), some (.int d), none, none, none] H
  unfold t_PartReader_part
  have ea := rd.at_
  have hk1 := p.mxd_kids
  have hk2 := p.sz_kids
  have hrd : RdAt K H a ws i (n + sz p.kids + 1) dx wl row := by
    rw [show n + sz p.kids + 1 = n + p.size from by omega]
    exact rd
  rcases word_cases p with ⟨k, rfl⟩ | ⟨x, rfl⟩ | ⟨f, rfl⟩ | ⟨r, b, rfl⟩ | ⟨b, rfl⟩ | ⟨hpw, hs⟩
  · obtain ⟨hw1, _⟩ := hw.head
    obtain ⟨c, hc1, hc2, hc3⟩ := num_first (n := k)
    obtain ⟨lw1, lw2⟩ := low_word hc1 (by omega)
    have hl := numS_len hg.num
    walk_at "gg"
    refine ⟨a, dx, wl, ws, i, _, d, row, _, rfl, hrd, hw1, by omega, by omega, .inl (by unfold isKnown; rw [num_figs hg.num]; rfl), fun H1 rd1 c1 => ?_⟩
    walk_at "gg"
    refine g_inK T (r := false) lw1 ?_
    walk_at "gg"
    refine g_F (decide_eq_false lw2) ?_
    walk_at "gg"
    refine g_ixS (by show _ ≤ 16777216; omega) (c := c) (atI_of (by decide) hc1) ?_
    walk_at "gg"
    refine g_F (decide_eq_false fun e => hc3 (by
      have := congrArg (fun z : Str => z.cps.toList) e
      have h5 : [c] = [46] := this
      injection h5)) ?_
    walk_at "gg"
    refine g_ixS (by show _ ≤ 16777216; omega) (c := c) (atI_of (by decide) hc1) ?_
    walk_at "gg"
    refine g_F (decide_eq_false fun e => by
      have := congrArg (fun z : Str => z.cps.toList) e
      have h5 : [c] = [58] := this
      injection h5 with h5
      omega) ?_
    walk_at "gg"
    refine g_intT (num_int hg.num) (by omega) ?_
    walk_at "gg"
    rename_i t2 H2 n2 e2 s2
    exact q _ H2 (.tup e2 (.cons (.str _) (.one (.int _)))) (rd1.same s2) (c1.trans (Chg.same s2))
  · obtain ⟨hw1, _⟩ := hw.head
    have hc1 : (("." : Str) ++ x).cps.toList[0]? = some 46 := by rw [cps_dot]; rfl
    obtain ⟨lw1, lw2⟩ := low_word hc1 (by omega)
    have hl := dot_len hg.name
    walk_at "gg"
    refine ⟨a, dx, wl, ws, i, _, d, row, _, rfl, hrd, hw1, by omega, by omega, .inl (by unfold isKnown; rw [mark_dot hg.name]; simp), fun H1 rd1 c1 => ?_⟩
    walk_at "gg"
    refine g_inK T (r := false) lw1 ?_
    walk_at "gg"
    refine g_F (decide_eq_false lw2) ?_
    walk_at "gg"
    refine g_ixS (by show _ ≤ 16777216; omega) (c := 46) (atI_of (by decide) hc1) ?_
    walk_at "gg"
    refine g_slS (by show _ ≤ 16777216; omega) ?_
    rw [cut_dot]
    walk_at "gg"
    rename_i t2 H2 n2 e2 s2
    exact q _ H2 (.tup e2 (.cons (.str _) (.one (.str _)))) (rd1.same s2) (c1.trans (Chg.same s2))
  · obtain ⟨hw1, _⟩ := hw.head
    have hc1 : ((":" : Str) ++ f).cps.toList[0]? = some 58 := by rw [cps_col]; rfl
    obtain ⟨lw1, lw2⟩ := low_word hc1 (by omega)
    have hl : ((":" : Str) ++ f).length ≤ 9 := by
      rw [Str.lenCat]
      have := hg.fn.2.1
      have : (":" : Str).length = 1 := by decide
      omega
    walk_at "gg"
    refine ⟨a, dx, wl, ws, i, _, d, row, _, rfl, hrd, hw1, by omega, by omega, .inl (by unfold isKnown; rw [mark_col hg.fn]; simp), fun H1 rd1 c1 => ?_⟩
    walk_at "gg"
    refine g_inK T (r := false) lw1 ?_
    walk_at "gg"
    refine g_F (decide_eq_false lw2) ?_
    walk_at "gg"
    refine g_ixS (by show _ ≤ 16777216; omega) (c := 58) (atI_of (by decide) hc1) ?_
    walk_at "gg"
    refine g_ixS (by show _ ≤ 16777216; omega) (c := 58) (atI_of (by decide) hc1) ?_
    walk_at "gg"
    refine g_slS (by show _ ≤ 16777216; omega) ?_
    rw [cut_col]
    walk_at "gg"
    rename_i t2 H2 n2 e2 s2
    exact q _ H2 (.tup e2 (.cons (.str _) (.one (.str _)))) (rd1.same s2) (c1.trans (Chg.same s2))
  · obtain ⟨hr4, hrq, hbg, hbz, hbd⟩ := hg.rows hz
    have hrn : 1 ≤ r.list.length := by
      obtain ⟨⟨fs, sc, h1⟩, _⟩ := hg
      have h2 := h1.2.1
      rw [Rows.list_names] at h2
      cases hq : r.list with
      | nil => rw [hq] at h2; exact absurd rfl h2
      | cons a l => simp
    have hsz : (Part.letp r b).size = 1 + (r.size + b.size) := rfl
    obtain ⟨hw1, hw2⟩ := hw.head
    rw [show (numS r.parts.length :: (r.words ++ b.words)) = (numS r.list.length :: r.words) ++ b.words from by rw [Rows.list_parts, List.length_map]; rfl] at hw2
    obtain ⟨hw3, hw4⟩ := hw2.app
    have hrd' : RdAt K H a ws i (n + b.size + r.size + 1) dx wl row := by
      rw [show n + b.size + r.size + 1 = n + (Part.letp r b).size from by rw [hsz]; omega]
      exact rd
    walk_at "gg"
    refine ⟨a, dx, wl, ws, i, _, d, row, _, rfl, hrd', hw1, by decide, by omega, .inr (.inr rfl), fun H1 rd1 c1 => ?_⟩
    have ea1 := rd1.at_
    walk_at "gg"
    refine ⟨a, dx, wl, ws, _, _, d + 1, row, r, rfl, rd1, hw3, hrn, hr4, fun z hz => ?_, fun v2 H2 tv rd2 c2 => ?_⟩
    · obtain ⟨h1, h2, h3, h4⟩ := hrq z hz
      exact ⟨h1, h2, h3, by omega, by omega⟩
    have ea2 := rd2.at_
    walk_at "gg"
    refine ⟨a, dx, wl, ws, _, _, d + 1, row, b, rfl, rd2, ?_, hbg, hbz, by omega, by omega, fun v3 H3 tb rd3 c3 => ?_⟩
    · rw [List.length_cons, show i + 1 + (r.words.length + 1) = i + 1 + 1 + r.words.length from by omega] at hw4
      exact hw4
    walk_at "gg"
    rename_i t4 H4 n4 e4 s4
    refine q _ H4 (.tup e4 (.cons (.str _) (.cons ((tv.mono (rd2.tk c3)).mono (Same.tk s4)) (.one (tb.mono (Same.tk s4)))))) ?_ (c1.trans (c2.trans (c3.trans (Chg.same s4))))
    have := rd3.same s4
    rw [show i + 1 + 1 + r.words.length + b.words.length = i + (Part.letp r b).words.length from by
      show _ = i + ((r.words ++ b.words).length + 1 + 1)
      rw [List.length_append]
      omega] at this
    exact this
  · exact hg.1.elim fun _ h => h.elim fun _ h => h.elim
  · have hkg := hg.kids
    rw [words_kids hpw hs] at hw
    obtain ⟨hw1, hw2⟩ := hw.head
    walk_at "gg"
    refine ⟨a, dx, wl, ws, i, _, d, row, _, rfl, hrd, hw1, word_short, by omega, .inr (.inl (PARTS_in hpw hs)), fun H1 rd1 c1 => ?_⟩
    walk_at "gg"
    refine g_inK T (r := true) (PARTS_in hpw hs) ?_
    walk_at "gg"
    rename_i t2 H2 n2 e2 s2
    refine g_ixKT T (v := .int p.kids.length) (PARTS_len hpw hs) ?_
    have hkl : p.kids.length ≤ 60 := Nat.le_trans (sz_len p.kids) (by omega)
    refine g_isrng (by omega) (by omega) ?_
    rw [Int.toNat_natCast]
    have rd2 := rd1.same s2
    intro D hD
    have hna : D ≠ a := (ne_of_none rd2.at_ hD).symm
    have hnw : D ≠ wl := (ne_of_none rd2.wl hD).symm
    have hn2 : D ≠ t2 := (ne_of_none e2 hD).symm
    refine lc_any p.kids.length (fun j acc H' => acc.length = j ∧ Tps H' acc ((p.kids.take j).map Part.data) ∧ RdAt K H' a ws (i + 1 + ((p.kids.take j).flatMap Part.words).length) (n + sz (p.kids.drop j)) dx wl row ∧
      Ahead ws (i + 1 + ((p.kids.take j).flatMap Part.words).length) ((p.kids.drop j).flatMap Part.words) ∧ (∀ b o, b ≠ a → H2 b = some o → H' b = some o)) hD
      (fun H' e s => ⟨rfl, .nil, rd2.same s, hw2, fun b o _ e => s _ _ e⟩) (fun j acc H' hj _ => hj) (fun acc H' _ => Nat.le_refl _) ?_ ?_
    · rintro j x acc _ H5 hj hla ⟨hacc, tacc, rd5, hw5, fr⟩ hd5 ⟨rfl, rfl⟩
      obtain ⟨p2, hp2⟩ : ∃ q, p.kids[j]? = some q := ⟨_, List.getElem?_eq_getElem hj⟩
      have hpm := List.mem_of_getElem? hp2
      have hpsz := sz_mem hpm
      have hpmx := mxd_mem hpm
      rw [drop_flat hp2] at hw5
      obtain ⟨hw6, hw7⟩ := hw5.app
      have ea5 := rd5.at_
      have hszd : n + sz (p.kids.drop j) = n + sz (p.kids.drop (j + 1)) + p2.size := by
        rw [sz_sum, sz_sum, sum_take hp2]
        omega
      rw [hszd] at rd5
      walk_at "gg"
      refine ⟨rfl, ?_⟩
      walk_at "gg"
      refine ⟨a, dx, wl, ws, _, _, d + 1, row, p2, rfl, rd5, hw6, hkg p2 hpm, by omega, by omega, by omega, fun v H6 tv rd6 c6 => ?_⟩
      have hd6 := c6 _ _ hna hd5
      refine lc_step hd6 hla (by show _ < 16777216; omega) fun H7 e7 c7 => ?_
      have k7 : Tk H6 H7 := c7.tkl hd6
      refine ⟨by rw [List.length_append, hacc]; rfl, ?_, ?_, ?_, fun b o hb e => ?_⟩
      · rw [List.take_add_one, hp2, Option.toList, List.map_append]
        exact ((tacc.mono (rd5.tk c6)).mono k7).append (.one (tv.mono k7))
      · rw [take_flat hp2, List.length_append, ← Nat.add_assoc]
        exact rd6.chg c7 hna.symm hnw.symm
      · rw [take_flat hp2, List.length_append, ← Nat.add_assoc]
        exact hw7
      · by_cases hbD : b = D
        · subst hbD
          rw [hD] at e
          cases e
        · exact c7 _ _ hbD (c6 _ _ hb (fr b o hb e))
    · rintro acc H5 hd5 ⟨hacc, tacc, rd5, hw5, fr⟩
      rw [List.take_length] at tacc rd5
      rw [List.drop_length] at rd5
      have e25 := fr t2 _ (fun z => by rw [z, rd2.at_] at e2; cases e2) e2
      walk_at "gg"
      rename_i t6 H6 n6 e6 s6
      have hne : acc ≠ [] := fun z => by
        rw [z] at hacc
        exact kids_ne hpw hs (List.eq_nil_of_length_eq_zero hacc.symm)
      refine g_addTn (s6 _ _ e25) e6 (by show 1 + acc.length ≤ 16777216; omega) hne fun t7 H7 e7 s7 => ?_
      walk_at "gg"
      refine q _ H7 ?_ ?_ ?_
      · rw [p.data_eq, Part.args_subs hpw, subs_kids hpw hs]
        exact .tup e7 (.cons (.str _) (tacc.mono (Same.tk (s6.trans s7))))
      · rw [words_kids hpw hs, List.length_cons, show i + ((p.kids.flatMap Part.words).length + 1) = i + 1 + (p.kids.flatMap Part.words).length from by omega]
        have := rd5.same (s6.trans s7)
        exact this
      · refine c1.trans ((Chg.same s2).trans (Chg.trans (H1 := H5) (fun b o hb e => fr b o hb e) (Chg.same (s6.trans s7))))

/-! ### the reader: whole rows, texts -/
def spRInit (K : PySem.W.Frag) : Sp := fun vs H Q _ => ∃ (x dx wl : Addr) (row i : Int), vs = [.ref x, .int row, .ref wl, .int i] ∧ H x = some (.ins (He.ga K "PartReader") dx []) ∧ ∀ H', H' x = some (.ins (He.ga K "PartReader") dx (rdF row wl i 60)) → Chg x H H' → Q .non H'
theorem pure_rinit {K : PySem.W.Frag} {w : World} (R : RdK K) : PureOk 4 (spRInit K) (t_PartReader___init__ K w) 4 := by
  refine ⟨fun vs H Q E ⟨_, _, _, _, _, e, _⟩ => by rw [e]; rfl, ?_⟩
  rintro vs H Q E ⟨x, dx, wl, row, i, rfl, ex, q⟩
  show t_PartReader___init__ K w _ [some (.ref x), some (.int row), some (.ref wl), some (.int i)] H
  unfold t_PartReader___init__
  walk_at "gg"
  refine g_sfldr ex R.c R.row (by show 0 < 1000; decide) (fs' := [("row", .int row)]) rfl fun H1 e1 c1 => ?_
  walk_at "gg"
  refine g_sfldr e1 R.c R.words (by show 1 < 1000; decide) (fs' := [("row", .int row), ("words", .ref wl)]) rfl fun H2 e2 c2 => ?_
  walk_at "gg"
  refine g_sfldr e2 R.c R.at_ (by show 2 < 1000; decide) (fs' := [("row", .int row), ("words", .ref wl), ("at", .int i)]) rfl fun H3 e3 c3 => ?_
  walk_at "gg"
  refine g_sfldr e3 R.c R.left (by show 3 < 1000; decide) (fs' := rdF row wl i 60) rfl fun H4 e4 c4 => ?_
  exact q H4 e4 (c1.trans (c2.trans (c3.trans c4)))
def spRWhole (K : PySem.W.Frag) : Sp := fun vs H Q _ => ∃ (a dx wl : Addr) (ws : List Str) (i n : Nat) (row : Int) (p : Part), vs = [.ref a] ∧ RdAt K H a ws i (n + p.size) dx wl row ∧ ws.drop i = p.words ∧ p.good ∧ p.size ≤ 60 ∧
  ∀ (v : V) (H' : Hp), Tp H' v p.data → Chg a H H' → Q v H'
theorem words_pos {p : Part} (h : p.good) : 1 ≤ p.words.length := by
  obtain ⟨⟨fs, sc, h1⟩, _⟩ := h
  obtain ⟨_, _, c⟩ := Part.words_ok h1
  exact List.length_pos_iff.mpr c
theorem pure_rwhole {K : PySem.W.Frag} {w : World} (R : RdK K) : PureOk 1 (spRWhole K) (t_PartReader_whole K w (spRPart K 12) spNo) 2 := by
  refine ⟨fun vs H Q E ⟨_, _, _, _, _, _, _, _, e, _⟩ => by rw [e]; rfl, ?_⟩
  rintro vs H Q E ⟨a, dx, wl, ws, i, n, row, p, rfl, rd, hw, hg, hz, q⟩
  show t_PartReader_whole K w _ _ _ [some (.ref a), none] H
  unfold t_PartReader_whole
  have ea := rd.at_
  have hc := R.c
  have hat := R.at_
  have hwd := R.words
  walk_at "gg"
  refine ⟨a, dx, wl, ws, i, n, 1, row, p, rfl, rd, ⟨[], by rw [hw, List.append_nil]⟩, hg, hz, hg.2, by have := hg.2; omega, fun v H1 tv rd1 c1 => ?_⟩
  have ea1 := rd1.at_
  have ew1 := rd1.wl
  have hlen : ws.length = i + p.words.length := by
    have h1 := congrArg List.length hw
    have h2 := words_pos hg
    rw [List.length_drop] at h1
    omega
  walk_at "gg"
  refine g_F (decide_eq_false (by rw [List.length_map, hlen]; omega)) ?_
  walk_at "gg"
  exact q v H1 tv c1
def spReadPart (K : PySem.W.Frag) : Sp := fun vs H Q _ => ∃ (wl : Addr) (ws : List Str) (i : Nat) (row : Int) (p : Part), vs = [.int row, .ref wl, .int i] ∧ H wl = some (.lst (ws.map V.str)) ∧ ws.length ≤ 100000 ∧ ws.drop i = p.words ∧ p.good ∧ p.size ≤ 60 ∧
  ∀ (v : V) (H' : Hp), Tp H' v p.data → Same H H' → Q v H'
theorem pure_readpart {K : PySem.W.Frag} {w : World} : PureOk 3 (spReadPart K) (t_read_part K w (spRInit K) (spRWhole K)) 3 := by
  refine ⟨fun vs H Q E ⟨_, _, _, _, _, e, _⟩ => by rw [e]; rfl, ?_⟩
  rintro vs H Q E ⟨wl, ws, i, row, p, rfl, ew, hf, hw, hg, hz, q⟩
  show t_read_part K w _ _ _ [some (.int row), some (.ref wl), some (.int i)] H
  unfold t_read_part
  walk_at "gg"
  rename_i x dx H1 nx e1 s1
  refine ⟨x, dx, wl, row, i, rfl, e1, fun H2 e2 c2 => ⟨rfl, ?_⟩⟩
  walk_at "gg"
  have hne : wl ≠ x := ne_of_none ew nx
  have rd2 : RdAt K H2 x ws i 60 dx wl row := ⟨e2, c2 _ _ hne (s1 _ _ ew), hf⟩
  rw [show (60 : Nat) = (60 - p.size) + p.size from by omega] at rd2
  refine ⟨x, dx, wl, ws, i, _, row, p, rfl, rd2, hw, hg, hz, fun v H3 tv c3 => ?_⟩
  exact q v H3 tv (Same.chg s1 nx (c2.trans c3))
theorem not_mark_eq : isMark "=" "." = false := by decide
def spReadFn (K : PySem.W.Frag) : Sp := fun vs H Q _ => ∃ (wl : Addr) (row : Int) (fs : List Str) (f : Fn1), vs = [.int row, .ref wl] ∧ H wl = some (.lst (f.words.map V.str)) ∧ f.fine fs ∧
  ∀ (v : V) (H' : Hp), Tp H' v f.data → Same H H' → Q v H'
theorem Fn1.at_thing {f : Fn1} {j : Nat} {x : Str} (h : f.things[j]? = some x) : f.words[1 + j]? = some ("." ++ x) := by
  have hj := (List.getElem?_eq_some_iff.mp h).1
  show (f.name :: (dots f.things ++ (("=" : Str) :: f.body.words)))[1 + j]? = _
  rw [show 1 + j = j + 1 from Nat.add_comm _ _, List.getElem?_cons_succ, List.getElem?_append_left (by unfold dots; rw [List.length_map]; exact hj)]
  unfold dots
  rw [List.getElem?_map, h]
  rfl
theorem Fn1.at_eq {f : Fn1} : f.words[1 + f.things.length]? = some "=" := by
  show (f.name :: (dots f.things ++ (("=" : Str) :: f.body.words)))[1 + f.things.length]? = _
  rw [show 1 + f.things.length = f.things.length + 1 from Nat.add_comm _ _, List.getElem?_cons_succ, List.getElem?_append_right (by unfold dots; rw [List.length_map]; exact Nat.le_refl _)]
  unfold dots
  rw [List.length_map, Nat.sub_self]
  rfl
theorem Fn1.behind {f : Fn1} : f.words.drop (1 + f.things.length + 1) = f.body.words := by
  show (f.name :: (dots f.things ++ (("=" : Str) :: f.body.words))).drop (1 + f.things.length + 1) = _
  rw [show 1 + f.things.length + 1 = (f.things.length + 1) + 1 from by omega, List.drop_succ_cons]
  have h1 : (dots f.things).length = f.things.length := by unfold dots; rw [List.length_map]
  rw [← h1, ← List.drop_drop, List.drop_left]
  rfl
/-! ### texts read -/
def okc (c : Nat) : Prop := c ≠ 10 ∧ c ≠ 32
def okw (w : Str) : Prop := ∀ c ∈ w.cps.toList, okc c
theorem okw_name {x : Str} (h : isName x) : okw x := fun c hc => by
  have := h.2.2 c hc
  exact ⟨by omega, by omega⟩
theorem okw_dot {x : Str} (h : isName x) : okw ("." ++ x) := fun c hc => by
  rw [cps_dot] at hc
  rcases List.mem_cons.mp hc with rfl | hc
  · exact ⟨by decide, by decide⟩
  · exact okw_name h c hc
theorem okw_col {x : Str} (h : isName x) : okw (":" ++ x) := fun c hc => by
  rw [cps_col] at hc
  rcases List.mem_cons.mp hc with rfl | hc
  · exact ⟨by decide, by decide⟩
  · exact okw_name h c hc
theorem okw_num {n : Int} : okw (numS n) := fun c hc => by
  cases n with
  | ofNat m =>
    have hc' : c ∈ TL.numL m := by rw [← numS_nat]; exact hc
    have := TL.numL_digits m c hc'
    exact ⟨by omega, by omega⟩
  | negSucc m =>
    rw [numS_neg] at hc
    rcases List.mem_cons.mp hc with rfl | hc
    · exact ⟨by decide, by decide⟩
    · have := TL.numL_digits (m + 1) c hc
      exact ⟨by omega, by omega⟩
theorem okw_dec {w : Str} (h : (w.cps.toList.all fun c => decide (c ≠ 10) && decide (c ≠ 32)) = true) : okw w := fun c hc => by
  have := List.all_eq_true.mp h c hc
  simp only [Bool.and_eq_true, decide_eq_true_iff] at this
  exact this
mutual
theorem Part.okws {fs : List Str} : ∀ {p : Part} {sc : List Str}, p.ok fs sc → ∀ w ∈ p.words, okw w
  | .num n, sc, h => fun w hw => by rw [List.mem_singleton.mp hw]; exact okw_num
  | .name x, sc, h => fun w hw => by rw [List.mem_singleton.mp hw]; exact okw_dot h.2
  | .fn x, sc, h => fun w hw => by rw [List.mem_singleton.mp hw]; exact okw_col h.2
  | .one k a, sc, h => fun w hw => by
    rcases List.mem_cons.mp hw with rfl | hw
    · cases k <;> exact okw_dec (by decide)
    · exact Part.okws (p := a) h w hw
  | .two k a b, sc, h => fun w hw => by
    rcases List.mem_cons.mp hw with rfl | hw
    · cases k <;> exact okw_dec (by decide)
    · rcases List.mem_append.mp hw with hw | hw
      · exact Part.okws (p := a) h.1 w hw
      · exact Part.okws (p := b) h.2 w hw
  | .whn a b c, sc, h => fun w hw => by
    rcases List.mem_cons.mp hw with rfl | hw
    · exact okw_dec (by decide)
    · rcases List.mem_append.mp hw with hw | hw
      · exact Part.okws (p := a) h.1 w hw
      · rcases List.mem_append.mp hw with hw | hw
        · exact Part.okws (p := b) h.2.1 w hw
        · exact Part.okws (p := c) h.2.2 w hw
  | .letp r a, sc, h => fun w hw => by
    rcases List.mem_cons.mp hw with rfl | hw
    · exact okw_dec (by decide)
    · rcases List.mem_cons.mp hw with rfl | hw
      · exact okw_num
      · rcases List.mem_append.mp hw with hw | hw
        · exact Rows.okws (r := r) h.2.2.2.1 h.2.2.1 w hw
        · exact Part.okws (p := a) h.2.2.2.2 w hw
  | .shut a, sc, h => h.elim
theorem Rows.okws {fs : List Str} : ∀ {r : Rows} {sc : List Str}, r.ok fs sc → (∀ x ∈ r.names, isName x) → ∀ w ∈ r.words, okw w
  | .nil, sc, h, _ => fun w hw => absurd hw (by simp [Rows.words])
  | .cons x a r, sc, h, hn => fun w hw => by
    rcases List.mem_cons.mp hw with rfl | hw
    · exact okw_dot (hn x (by show x ∈ x :: r.names; simp))
    · rcases List.mem_append.mp hw with hw | hw
      · exact Part.okws (p := a) h.1 w hw
      · exact Rows.okws (r := r) h.2 (fun y hy => hn y (List.mem_cons_of_mem _ hy)) w hw
end
theorem Prog.fine.okws {P : Prog} (h : P.fine) : ∀ r ∈ P.wrows, r ≠ [] ∧ ∀ w ∈ r, okw w := by
  intro r hr
  rcases List.mem_append.mp hr with hr | hr
  · obtain ⟨f, hf, rfl⟩ := List.mem_map.mp hr
    have hf := h.fs f hf
    refine ⟨by simp [Fn1.words], fun w hw => ?_⟩
    rcases List.mem_cons.mp hw with rfl | hw
    · exact okw_name hf.nm
    · rcases List.mem_append.mp hw with hw | hw
      · obtain ⟨x, hx, rfl⟩ := List.mem_map.mp hw
        exact okw_dot (hf.th x hx)
      · rcases List.mem_cons.mp hw with rfl | hw
        · exact okw_dec (by decide)
        · exact Part.okws hf.body.ok w hw
  · rw [List.mem_singleton.mp hr]
    refine ⟨by simp, fun w hw => ?_⟩
    rcases List.mem_cons.mp hw with rfl | hw
    · exact okw_dec (by decide)
    · exact Part.okws h.asked.ok w hw
theorem joinL_mem {s : List Nat} {c : Nat} : ∀ {ps : List (List Nat)}, c ∈ TL.joinL s ps → c ∈ s ∨ ∃ p ∈ ps, c ∈ p
  | [], h => absurd h (by simp [TL.joinL])
  | [p], h => .inr ⟨p, by simp, h⟩
  | p :: q :: r, h => by
    rcases List.mem_append.mp h with h | h
    · exact .inr ⟨p, by simp, h⟩
    · rcases List.mem_append.mp h with h | h
      · exact .inl h
      · rcases joinL_mem (ps := q :: r) h with h | ⟨p2, h1, h2⟩
        · exact .inl h
        · exact .inr ⟨p2, by simp [h1], h2⟩
theorem split_words {ws : List Str} (h1 : ws ≠ []) (h2 : ∀ w ∈ ws, okw w) : Txt.split (Txt.join " " ws) " " = ws :=
  TL.split_join (y := " ") (s := 32) (S := []) rfl (by decide +kernel) h1 fun w hw c => (h2 w hw 32 c).2 rfl
theorem split_rows {rs : List (List Str)} (h1 : rs ≠ []) (h2 : ∀ r ∈ rs, ∀ w ∈ r, okw w) : Txt.split (Txt.join "\n" (rs.map (Txt.join " "))) "\n" = rs.map (Txt.join " ") :=
  TL.split_join (y := "\n") (s := 10) (S := []) rfl (by decide +kernel) (by simpa using h1) fun w hw c => by
    obtain ⟨r, hr, rfl⟩ := List.mem_map.mp hw
    have c' : 10 ∈ (Txt.join " " r).cps.toList := c
    rw [join_tl] at c'
    rcases joinL_mem c' with h | ⟨p, h3, h4⟩
    · exact absurd h (by decide)
    · obtain ⟨w, hw, rfl⟩ := List.mem_map.mp h3
      exact (h2 r hr w hw 10 h4).1 rfl
theorem for_enumL {K : PySem.W.Frag} {g : TG} {tb : TS} {D : Ends} {σ : L2.St} {H : Hp} {a : Addr} {xs : List V} (Pv : Nat → L2.St → Hp → Prop) (ha : ∀ i σ H', Pv i σ H' → H' a = some (.lst xs)) (h0 : Pv 0 σ H)
    (hs : ∀ (i : Nat) x σ H' T H2, xs[i]? = some x → Pv i σ H' → Fr H' T → H2 T = some (.tup [.int (i : Nat), x]) → Same H' H2 → g (.ref T) σ H2 fun σ2 H3 => tb { D with nx := Pv (i + 1), ct := Pv (i + 1), bk := D.nx } σ2 H3) (hd : ∀ σ H', Pv xs.length σ H' → D.nx σ H') : ForW (Ite K a) g tb D σ H :=
  for_any xs.length Pv h0 (fun i σ H' hi p => ⟨_, _, .of (ha _ _ _ p), List.getElem?_eq_getElem hi⟩) (fun σ H' p => ⟨_, .of (ha _ _ _ p), Nat.le_refl _⟩)
    (fun i x σ H1 H2 hi p ⟨T, y, e1, nT, e2, hy⟩ => by
      subst e1 e2
      exact hs i y σ _ T _ (hy _ (.of (ha _ _ _ p))) p nT upd_same (same_upd nT)) hd
theorem name_q {x : Str} (h : isName x) : x ≠ "?" := fun e => by
  have := h.2.2 63 (by rw [e]; decide)
  omega
def spRead : Sp := fun vs H Q _ => ∃ (P : Prog), vs = [.str P.text] ∧ P.fine ∧ ∀ (v : V) (H' : Hp), Tp H' v P.data → Same H H' → Q v H'

/-! ### alike -/
theorem Tp.likeR {K : PySem.W.Frag} {H : Hp} {ds : List PyData} {v v' : V} {n : Nat} (h : Tp H v (.tuple ds)) (h' : Tp H v' (.tuple ds)) (hn : PyData.depthAll ds < n) : LkR K H (Lk K H n) v v' := by
  cases h with
  | tup e r =>
    cases h' with
    | tup e' r' => exact .inr ⟨_, _, _, _, rfl, rfl, .of e, .of e', Tps.like r r' hn⟩
theorem Part.depthAll (p : Part) : PyData.depthAll (.str p.word :: p.args) < PyData.depth p.data := by
  rw [p.data_eq, PyData.depth]
  omega
section
variable {K : PySem.W.Frag} {H : Hp} {x y : V} {Q : VK}
theorem g_neLk {n : Nat} (h : LkR K H (Lk K H n) x y) (hn : n ≤ 150) (q : Q (.bl false) H) : rNeG K x y H Q := .inr (.inr (.inr (.inl ⟨n, hn, h, q⟩)))
theorem g_eqLk {n : Nat} (h : LkR K H (Lk K H n) x y) (hn : n ≤ 150) (q : Q (.bl true) H) : rEqG K x y H Q := .inr (.inr (.inr (.inl ⟨n, hn, h, q⟩)))
end

/-! ### anything plain: none, truths, numbers, texts, tuples, lists (these are not looked into) -/
mutual
inductive Gq (H : Hp) : V → PyData → Prop
  | non : Gq H .non .none
  | bl (b : Bool) : Gq H (.bl b) (.bool b)
  | int (i : Int) : Gq H (.int i) (.int i)
  | str (x : Str) : x.length ≤ 16777216 → Gq H (.str x) (.str x)
  | tup {a : Addr} {xs : List V} {ds : List PyData} : H a = some (.tup xs) → Gqs H xs ds → Gq H (.ref a) (.tuple ds)
  | lst {a : Addr} {xs : List V} {ds : List PyData} : H a = some (.lst xs) → Gq H (.ref a) (.list ds)
inductive Gqs (H : Hp) : List V → List PyData → Prop
  | nil : Gqs H [] []
  | cons {v : V} {vs : List V} {d : PyData} {ds : List PyData} : Gq H v d → Gqs H vs ds → Gqs H (v :: vs) (d :: ds)
end
/-- the tuples stay, the lists stay lists -/
structure Tl (H H' : Hp) : Prop where
  tup : Tk H H'
  lst : ∀ a xs, H a = some (.lst xs) → ∃ ys, H' a = some (.lst ys)
theorem Tl.refl (H : Hp) : Tl H H := ⟨Tk.refl H, fun _ xs e => ⟨xs, e⟩⟩
theorem Tl.trans {H H1 H2 : Hp} (a : Tl H H1) (b : Tl H1 H2) : Tl H H2 := ⟨a.tup.trans b.tup, fun c xs e => by obtain ⟨ys, h⟩ := a.lst c xs e; exact b.lst c ys h⟩
theorem Same.tl {H H' : Hp} (s : Same H H') : Tl H H' := ⟨Same.tk s, fun a xs e => ⟨xs, s _ _ e⟩⟩
theorem Chg.tl {H H' : Hp} {a : Addr} {ys zs : List V} (c : Chg a H H') (h : H a = some (.lst ys)) (h' : H' a = some (.lst zs)) : Tl H H' := ⟨c.tkl h, fun b xs e => by
  by_cases hb : b = a
  · subst hb; exact ⟨zs, h'⟩
  · exact ⟨xs, c _ _ hb e⟩⟩
mutual
theorem Gq.mono {H H' : Hp} (k : Tl H H') : ∀ {d : PyData} {v : V}, Gq H v d → Gq H' v d
  | .none, _, h => by cases h; exact .non
  | .bool b, _, h => by cases h; exact .bl b
  | .int i, _, h => by cases h; exact .int i
  | .str x, _, h => by cases h with | str _ q => exact .str x q
  | .tuple ds, _, h => by
    cases h with
    | tup e r => exact .tup (k.tup _ _ e) (Gqs.mono k r)
  | .list ds, _, h => by
    cases h with
    | lst e => obtain ⟨ys, q⟩ := k.lst _ _ e; exact .lst q
  | .dict ds, _, h => by cases h
theorem Gqs.mono {H H' : Hp} (k : Tl H H') : ∀ {ds : List PyData} {vs : List V}, Gqs H vs ds → Gqs H' vs ds
  | [], _, h => by cases h; exact .nil
  | d :: ds, _, h => by
    cases h with
    | cons a b => exact .cons (Gq.mono k a) (Gqs.mono k b)
end
section
variable {H : Hp} {xs ys : List V} {ds es : List PyData} {v : V} {d : PyData}
theorem Gqs.length : ∀ {xs : List V} {ds : List PyData}, Gqs H xs ds → xs.length = ds.length
  | [], _, h => by cases h; rfl
  | x :: xs, _, h => by
    cases h with
    | cons a b => rw [List.length_cons, List.length_cons, Gqs.length b]
theorem Gqs.append : ∀ {xs : List V} {ds : List PyData}, Gqs H xs ds → Gqs H ys es → Gqs H (xs ++ ys) (ds ++ es)
  | [], _, h, h2 => by cases h; exact h2
  | x :: xs, _, h, h2 => by
    cases h with
    | cons a b => exact .cons a (Gqs.append b h2)
theorem Gqs.get : ∀ {xs : List V} {ds : List PyData} {i : Nat} {v : V}, Gqs H xs ds → xs[i]? = some v → ∃ d, ds[i]? = some d ∧ Gq H v d
  | [], _, i, v, _, e => by simp at e
  | x :: xs, _, 0, v, h, e => by
    cases h with
    | cons a b =>
      simp only [List.getElem?_cons_zero, Option.some.injEq] at e
      subst e
      exact ⟨_, rfl, a⟩
  | x :: xs, _, i + 1, v, h, e => by
    cases h with
    | cons a b =>
      rw [List.getElem?_cons_succ] at e
      obtain ⟨d, h1, h2⟩ := Gqs.get b e
      exact ⟨d, by rw [List.getElem?_cons_succ]; exact h1, h2⟩
theorem Gqs.cons_inv {vs : List V} (h : Gqs H vs (d :: ds)) : ∃ v us, vs = v :: us ∧ Gq H v d ∧ Gqs H us ds := by
  cases h with
  | cons a b => exact ⟨_, _, rfl, a, b⟩
theorem Gqs.nil_inv {vs : List V} (h : Gqs H vs []) : vs = [] := by cases h; rfl
theorem Gq.tup_inv (h : Gq H v (.tuple ds)) : ∃ a xs, v = .ref a ∧ H a = some (.tup xs) ∧ Gqs H xs ds := by
  cases h with
  | tup e r => exact ⟨_, _, rfl, e, r⟩
theorem Gq.str_inv {s : Str} (h : Gq H v (.str s)) : v = .str s ∧ s.length ≤ 16777216 := by
  cases h with
  | str _ q => exact ⟨rfl, q⟩
theorem Gqs.one (h : Gq H v d) : Gqs H [v] [d] := .cons h .nil
theorem Gqs.snoc_inv : ∀ {ds : List PyData} {e : PyData} {us : List V}, Gqs H us (ds ++ [e]) → ∃ vs v, us = vs ++ [v] ∧ Gqs H vs ds ∧ Gq H v e
  | [], e, us, h => by
    obtain ⟨v, us', rfl, h1, h2⟩ := Gqs.cons_inv h
    rw [h2.nil_inv]
    exact ⟨[], v, rfl, .nil, h1⟩
  | d :: ds, e, us, h => by
    obtain ⟨v, us', rfl, h1, h2⟩ := Gqs.cons_inv h
    obtain ⟨ws, u, rfl, h3, h4⟩ := Gqs.snoc_inv h2
    exact ⟨v :: ws, u, rfl, .cons h1 h3, h4⟩
theorem Gqs.of_get : ∀ {us : List V} {ds : List PyData}, us.length = ds.length → (∀ (i : Nat) y, us[i]? = some y → ∃ d, ds[i]? = some d ∧ Gq H y d) → Gqs H us ds
  | [], [], _, _ => .nil
  | u :: us, d :: ds, hl, h => by
    refine .cons ?_ (Gqs.of_get (Nat.succ.inj hl) fun i y hy => h (i + 1) y hy)
    obtain ⟨d', h1, h2⟩ := h 0 u rfl
    cases h1
    exact h2
end
def tyM : PyData → String
  | .none => "NoneType"
  | .bool _ => "bool"
  | .int _ => "int"
  | .str _ => "str"
  | .tuple _ => "tuple"
  | .list _ => "list"
  | .dict _ => "dict"
theorem Gq.ty {K : PySem.W.Frag} {H : Hp} {v : V} {d : PyData} (h : Gq H v d) : TyOf K H v (.type (tyM d)) := by
  cases h with
  | non => exact .non
  | bl b => exact .bl b
  | int i => exact .int i
  | str x _ => exact .str x
  | tup e _ => exact .tup e
  | lst e => exact .lst e
def isTupM : PyData → Bool
  | .tuple _ => true
  | _ => false
def isStrM : PyData → Bool
  | .str _ => true
  | _ => false
def isIntM : PyData → Bool
  | .int _ => true
  | .bool _ => true
  | _ => false
def isBoolM : PyData → Bool
  | .bool _ => true
  | _ => false
section
variable {K : PySem.W.Frag} {H : Hp} {v : V} {d : PyData} {Q : VK}
theorem g_isiTup (h : Gq H v d) (q : Q (.bl (isTupM d)) H) : rIsiG K [v, .ty "tuple"] H Q := g_isi h.ty (by cases h <;> (simp only [tyM, isTupM]; decide +kernel)) q
theorem g_isiStr (h : Gq H v d) (q : Q (.bl (isStrM d)) H) : rIsiG K [v, .ty "str"] H Q := g_isi h.ty (by cases h <;> (simp only [tyM, isStrM]; decide +kernel)) q
theorem g_isiInt (h : Gq H v d) (q : Q (.bl (isIntM d)) H) : rIsiG K [v, .ty "int"] H Q := g_isi h.ty (by cases h <;> (simp only [tyM, isIntM]; decide +kernel)) q
theorem g_isiBool (h : Gq H v d) (q : Q (.bl (isBoolM d)) H) : rIsiG K [v, .ty "bool"] H Q := g_isi h.ty (by cases h <;> (simp only [tyM, isBoolM]; decide +kernel)) q
end
/-! ### what is asked of names, numbers, rows -/
def nameM : PyData → Bool
  | .str s => decide (isName s)
  | _ => false
def wholeM : PyData → Bool
  | .int _ => true
  | _ => false
def smallM : PyData → Bool
  | .int n => decide (n.natAbs < 10 ^ 60)
  | _ => false
def rowM : PyData → Bool
  | .tuple [a, _] => nameM a
  | _ => false
def rowsM : PyData → Bool
  | .tuple ds => decide (1 ≤ ds.length) && (decide (ds.length ≤ 4) && ds.all rowM)
  | _ => false
def spIsNameX : Sp := fun vs H Q _ => ∃ (v : V) (d : PyData), vs = [v] ∧ Gq H v d ∧ ∀ H', Same H H' → Q (.bl (nameM d)) H'
theorem pure_isnameX {K : PySem.W.Frag} {w : World} : PureOk 1 spIsNameX (t_is_name K w) 2 := by
  refine ⟨fun vs H Q E ⟨_, _, e, _⟩ => by rw [e]; rfl, ?_⟩
  rintro vs H Q E ⟨v, d, rfl, t, q⟩
  by_cases hs : isStrM d = true
  · cases t with
    | str s hl => exact pure_isnameG.run [.str s] H Q E ⟨s, rfl, hl, q⟩
    | _ => cases hs
  · have hs' : isStrM d = false := by simpa using hs
    show t_is_name K w _ [some v, none] H
    unfold t_is_name
    walk_at "gg"
    refine g_isiStr t ?_
    walk_at "gg"
    refine g_T (by rw [hs']; rfl) ?_
    walk_at "gg"
    have := q H (.refl _)
    cases d <;> first | exact this | cases hs'
def spIsWholeX : Sp := fun vs H Q _ => ∃ (v : V) (d : PyData), vs = [v] ∧ Gq H v d ∧ ∀ H', Same H H' → Q (.bl (wholeM d)) H'
theorem pure_iswholeX {K : PySem.W.Frag} {w : World} : PureOk 1 spIsWholeX (t_is_whole K w) 1 := by
  refine ⟨fun vs H Q E ⟨_, _, e, _⟩ => by rw [e]; rfl, ?_⟩
  rintro vs H Q E ⟨v, d, rfl, t, q⟩
  show t_is_whole K w _ [some v] H
  unfold t_is_whole
  walk_at "gg"
  refine g_isiInt t ?_
  have h := q H (.refl _)
  walk_at "gg"
  refine g_ite (fun hi => ?_) (fun hi => ?_)
  · walk_at "gg"
    refine g_isiBool t ?_
    walk_at "gg"
    cases d <;> first | exact h | cases hi
  · cases d <;> first | exact h | cases hi
def spIsSmallX : Sp := fun vs H Q _ => ∃ (n : Int), vs = [.int n] ∧ Q (.bl (decide (n.natAbs < 10 ^ 60))) H
theorem pure_issmallX {K : PySem.W.Frag} {w : World} : PureOk 1 spIsSmallX (t_is_small K w) 1 := by
  refine ⟨fun vs H Q E ⟨_, e, _⟩ => by rw [e]; rfl, ?_⟩
  rintro vs H Q E ⟨n, rfl, q⟩
  show t_is_small K w _ [some (.int n)] H
  unfold t_is_small
  walk_at "gg"
  refine g_powI ⟨by decide, by decide, by decide⟩ ?_
  walk_at "gg"
  have e : decide ((n.natAbs : Int) < 10 ^ Int.toNat 60) = decide (n.natAbs < 10 ^ 60) := by
    have : (10 : Int) ^ Int.toNat 60 = ((10 ^ 60 : Nat) : Int) := by rfl
    rw [this]
    exact decide_eq_decide.mpr Int.ofNat_lt
  rw [e]
  exact q
def spIsRowX : Sp := fun vs H Q _ => ∃ (v : V) (d : PyData), vs = [v] ∧ Gq H v d ∧ ∀ H', Same H H' → Q (.bl (rowM d)) H'
theorem pure_isrowX {K : PySem.W.Frag} {w : World} : PureOk 1 spIsRowX (t_is_row K w spIsNameX) 1 := by
  refine ⟨fun vs H Q E ⟨_, _, e, _⟩ => by rw [e]; rfl, ?_⟩
  rintro vs H Q E ⟨v, d, rfl, t, q⟩
  show t_is_row K w _ _ [some v] H
  unfold t_is_row
  walk_at "gg"
  refine g_isiTup t ?_
  walk_at "gg"
  refine g_ite (fun hi => ?_) (fun hi => ?_)
  · cases d with
    | tuple ds =>
      obtain ⟨a, xs, rfl, ea, ts⟩ := t.tup_inv
      walk_at "gg"
      have hl := ts.length
      refine g_ite (fun h2 => ?_) (fun h2 => ?_)
      · have h2' : xs.length = 2 := by have := of_decide_eq_true h2; omega
        match ds, hl, ts with
        | [d1, d2], _, ts =>
          obtain ⟨x, us, rfl, tx, ts⟩ := ts.cons_inv
          walk_at "gg"
          exact ⟨x, d1, rfl, tx, q⟩
        | [], hl, _ => rw [h2'] at hl; cases hl
        | [_], hl, _ => rw [h2'] at hl; cases hl
        | _ :: _ :: _ :: _, hl, _ => rw [h2'] at hl; simp at hl
      · have h2' : xs.length ≠ 2 := by intro e; have := of_decide_eq_false h2; omega
        have := q H (.refl _)
        rw [show decide ((xs.length : Int) = 2) = false from h2]
        match ds, hl, this with
        | [], _, h => exact h
        | [_], _, h => exact h
        | [_, _], hl, _ => exact absurd hl h2'
        | _ :: _ :: _ :: _, _, h => exact h
    | _ => cases hi
  · have := q H (.refl _)
    cases d <;> first | exact this | cases hi
/-- a test of each item of a tuple -/
theorem lc_testT {K : PySem.W.Frag} {g : TG} {te : TE} {vs : List Nat} {σ : L2.St} {H1 : Hp} {a : Addr} {xs : List V} {ds : List PyData} {f : PyData → Bool} {Qd : Addr → Hp → Prop} (ea : H1 a = some (.tup xs)) (tds : Gqs H1 xs ds) (hl : xs.length ≤ 100000)
    (hs : ∀ (x : V) (d : PyData) H' (Nx : V → Hp → Prop), Gq H' x d → (∀ H4, Same H' H4 → Nx (.bl (f d)) H4) → g x (wipe σ vs) H' fun σ2 H2 => wipe σ2 vs = wipe σ vs ∧ te σ2 H2 Nx)
    (hd : ∀ D H', Fr H1 D → H' D = some (.lst ((ds.map f).map V.bl)) → Same H1 H' → Qd D H') : LcR (Itt K a) g tYes te vs σ H1 Qd := by
  refine lc_mapT ea hl (fun i y H' => ∃ d, ds[i]? = some d ∧ y = .bl (f d)) (fun i y H H' k h => h) ?_ ?_
  · intro i x H' Nx hx s hN
    obtain ⟨d, hdd, tx⟩ := tds.get hx
    exact hs x d H' Nx (tx.mono (Same.tl s)) fun H4 s4 => hN _ H4 s4 ⟨d, hdd, rfl⟩
  · intro D ys H' nD eD hys hF s
    have hlen := tds.length
    have : ys = (ds.map f).map V.bl := by
      refine List.ext_getElem? fun i => ?_
      cases e : ys[i]? with
      | none =>
        rw [List.getElem?_eq_none_iff] at e
        rw [List.getElem?_eq_none (by rw [List.length_map, List.length_map]; omega)]
      | some y =>
        obtain ⟨d, hq, rfl⟩ := hF i y e
        rw [List.getElem?_map, List.getElem?_map, hq]
        rfl
    subst this
    exact hd D H' nD eD s
theorem all_mapD {ds : List PyData} {f : PyData → Bool} : (ds.map f).all id = ds.all f := by rw [List.all_map]; rfl
def spAreRowsX : Sp := fun vs H Q _ => ∃ (v : V) (d : PyData), vs = [v] ∧ Gq H v d ∧ ∀ H', Same H H' → Q (.bl (rowsM d)) H'
theorem pure_arerowsX {K : PySem.W.Frag} {w : World} : PureOk 1 spAreRowsX (t_are_rows K w spIsRowX) 2 := by
  refine ⟨fun vs H Q E ⟨_, _, e, _⟩ => by rw [e]; rfl, ?_⟩
  rintro vs H Q E ⟨v, d, rfl, t, q⟩
  show t_are_rows K w _ _ [some v, none] H
  unfold t_are_rows
  walk_at "gg"
  refine g_isiTup t ?_
  walk_at "gg"
  refine g_ite (fun hi => ?_) (fun hi => ?_)
  · cases d with
    | tuple ds =>
      obtain ⟨a, xs, rfl, ea, ts⟩ := t.tup_inv
      have hl := ts.length
      walk_at "gg"
      refine g_chain ?_
      walk_at "gg"
      by_cases h1 : 1 ≤ ds.length
      · refine g_T (decide_eq_true (by omega)) ?_
        walk_at "gg"
        by_cases h2 : ds.length ≤ 4
        · refine g_T (decide_eq_true (by omega)) ?_
          walk_at "gg"
          refine g_seqT ?_
          walk_at "gg"
          refine lc_testT (f := rowM) ea ts (by omega) ?_ ?_
          · intro x d H' Nx tx hN
            walk_at "gg"
            refine ⟨rfl, ?_⟩
            walk_at "gg"
            exact ⟨x, d, rfl, tx, hN⟩
          · intro D H' nD eD s
            walk_at "gg"
            refine ⟨D, _, rfl, SqL.of eD, ?_⟩
            rw [all_mapD]
            have this : Q (.bl (decide (1 ≤ ds.length) && (decide (ds.length ≤ 4) && ds.all rowM))) H' := q H' s
            rw [decide_eq_true h1, decide_eq_true h2, Bool.true_and, Bool.true_and] at this
            exact this
        · refine g_F (decide_eq_false (by omega)) ?_
          have this : Q (.bl (decide (1 ≤ ds.length) && (decide (ds.length ≤ 4) && ds.all rowM))) H := q H (.refl _)
          rw [decide_eq_true h1, decide_eq_false h2, Bool.true_and, Bool.false_and] at this
          rw [decide_eq_false (by omega)]
          exact this
      · refine g_F (decide_eq_false (by omega)) ?_
        have this : Q (.bl (decide (1 ≤ ds.length) && (decide (ds.length ≤ 4) && ds.all rowM))) H := q H (.refl _)
        rw [decide_eq_false h1, Bool.false_and] at this
        walk_at "gg"
        exact this
    | _ => cases hi
  · have := q H (.refl _)
    cases d <;> first | exact this | cases hi

/-! ### the parts of anything -/
theorem g_cutH {A : Prop} (C : Hp → Prop) {B : Hp → Prop} (f : (∀ H', C H' → B H') → A) (b : ∀ H', C H' → B H') : A := f b
def argsM (s : Str) : Option Nat := match (PARTSkvs.find? fun q => decide (q.1 = s)).map (·.2) with
  | some (V.int n) => some n.toNat
  | _ => none
theorem args_find (s : Str) : ((PARTSkvs.find? fun q => decide (q.1 = s)).isSome = (argsM s).isSome) ∧ ∀ n, argsM s = some n → (PARTSkvs.find? fun q => decide (q.1 = s)).map (·.2) = some (.int (n : Nat)) ∧ n ≤ 3 ∧ 1 ≤ n := by
  unfold argsM
  cases e : PARTSkvs.find? fun q => decide (q.1 = s) with
  | none => exact ⟨rfl, fun n h => by cases h⟩
  | some q =>
    have hm := List.mem_of_find?_eq_some e
    have key : ∀ q ∈ PARTSkvs, q.2 = .int 1 ∨ q.2 = .int 2 ∨ q.2 = .int 3 := by
      intro q hq
      simp only [PARTSkvs, List.mem_cons, List.not_mem_nil, or_false] at hq
      rcases hq with rfl | rfl | rfl | rfl | rfl | rfl | rfl | rfl | rfl <;> simp
    obtain ⟨k, v⟩ := q
    rcases key _ hm with h | h | h <;> (dsimp only at h; subst h; exact ⟨rfl, fun n h => by cases h; exact ⟨rfl, by decide, by decide⟩⟩)
def sndM : PyData → PyData
  | .tuple (_ :: b :: _) => b
  | d => d
def tupM : PyData → List PyData
  | .tuple ds => ds
  | _ => []
def kidsM : PyData → Option (List PyData)
  | .tuple (.str s :: d :: r) =>
    if s = "number" ∧ r.length = 0 ∧ smallM d = true then some []
    else if (s = "name" ∨ s = "fun") ∧ r.length = 0 ∧ nameM d = true then some []
    else if argsM s = some (r.length + 1) then some (d :: r)
    else if s = "let" ∧ r.length = 1 ∧ rowsM d = true then some ((tupM d).map sndM ++ r)
    else none
  | _ => none
theorem kidsM_len {d : PyData} {ks : List PyData} (h : kidsM d = some ks) : ks.length ≤ 5 := by
  unfold kidsM at h
  split at h
  · rename_i s d r
    split at h
    · cases h; exact Nat.zero_le _
    · split at h
      · cases h; exact Nat.zero_le _
      · split at h
        · rename_i h3
          cases h
          have := ((args_find s).2 _ h3).2.1
          simp only [List.length_cons]; omega
        · split at h
          · rename_i h4
            cases h
            obtain ⟨_, h5, h6⟩ := h4
            cases d with
            | tuple ds =>
              have h6' : (decide (1 ≤ ds.length) && (decide (ds.length ≤ 4) && ds.all rowM)) = true := h6
              simp only [Bool.and_eq_true, decide_eq_true_iff] at h6'
              rw [List.length_append, List.length_map]
              show ds.length + _ ≤ 5
              omega
            | _ => cases h6
          · cases h
  · cases h
section
variable {K : PySem.W.Frag} {H1 : Hp} {g : TG} {te : TE} {vs : List Nat} {σ : L2.St} {a : Addr} {xs : List V} {Qd : Addr → Hp → Prop} {F : Nat → V → Hp → Prop}
theorem lc_map_tl {J : It} (hJ1 : ∀ i H', i < xs.length → Same H1 H' → J.go i H') (hJ2 : ∀ H', Same H1 H' → J.stop xs.length H') (hJ3 : ∀ i H' x H2, Same H1 H' → J.yld i H' x H2 → H2 = H' ∧ xs[i]? = some x)
    (hl : xs.length ≤ 100000) (F : Nat → V → Hp → Prop) (hF : ∀ i y H H', Tl H H' → F i y H → F i y H')
    (hs : ∀ (i : Nat) x H' (Nx : V → Hp → Prop), xs[i]? = some x → Same H1 H' → (∀ y H4, Same H' H4 → F i y H4 → Nx y H4) → g x (wipe σ vs) H' fun σ2 H2 => wipe σ2 vs = wipe σ vs ∧ te σ2 H2 Nx)
    (hd : ∀ D (ys : List V) H', Fr H1 D → H' D = some (.lst ys) → ys.length = xs.length → (∀ (i : Nat) y, ys[i]? = some y → F i y H') → Same H1 H' → Qd D H') : LcR J g tYes te vs σ H1 Qd := by
  intro D hD
  refine lc_any xs.length (fun i acc H' => acc.length = i ∧ (∀ (j : Nat) y, acc[j]? = some y → F j y H') ∧ Same H1 H') hD (fun H' _ s => ⟨rfl, by simp, s⟩) (fun i acc H' hi ⟨_, _, s⟩ => hJ1 i H' hi s) (fun acc H' ⟨_, _, s⟩ => hJ2 H' s) ?_ ?_
  · rintro i x acc H2 H' hi hla ⟨ha, hf, s2⟩ hd2 hy
    obtain ⟨rfl, hx⟩ := hJ3 i _ _ _ s2 hy
    refine hs i x _ _ hx s2 fun y H4 s4 f4 => ?_
    refine lc_step (s4 _ _ hd2) hla (by show _ < 16777216; omega) fun H5 e5 c5 => ?_
    have k5 : Tl H4 H5 := c5.tl (s4 _ _ hd2) e5
    refine ⟨by rw [List.length_append, ha]; rfl, fun j z hz => ?_, Same.chg (s2.trans s4) hD c5⟩
    by_cases hj : j < acc.length
    · rw [List.getElem?_append_left hj] at hz
      exact hF _ _ _ _ ((Same.tl s4).trans k5) (hf j z hz)
    · have hj2 : j < (acc ++ [y]).length := (List.getElem?_eq_some_iff.mp hz).1
      rw [List.length_append, List.length_singleton] at hj2
      have : j = acc.length := by omega
      subst this
      rw [List.getElem?_append_right (Nat.le_refl _), Nat.sub_self] at hz
      cases hz
      rw [ha]
      exact hF _ _ _ _ k5 f4
  · rintro acc H' hd2 ⟨ha, hf, s⟩
    exact hd D acc H' hD hd2 ha hf s
/-- of each item another thing -/
theorem lc_gqT {ds : List PyData} (ea : H1 a = some (.tup xs)) (hl : xs.length ≤ 100000) (tds : Gqs H1 xs ds) (f : PyData → PyData)
    (hs : ∀ (x : V) (d : PyData) H' (Nx : V → Hp → Prop), d ∈ ds → Gq H' x d → (∀ y H4, Same H' H4 → Gq H4 y (f d) → Nx y H4) → g x (wipe σ vs) H' fun σ2 H2 => wipe σ2 vs = wipe σ vs ∧ te σ2 H2 Nx)
    (hd : ∀ D (ys : List V) H', Fr H1 D → H' D = some (.lst ys) → Gqs H' ys (ds.map f) → Same H1 H' → Qd D H') : LcR (Itt K a) g tYes te vs σ H1 Qd := by
  refine lc_map_tl (xs := xs) (fun i H' hi s => ⟨_, _, .of (s _ _ ea), List.getElem?_eq_getElem hi⟩) (fun H' s => ⟨_, .of (s _ _ ea), Nat.le_refl _⟩) (fun i H' x H2 s ⟨e, hx⟩ => ⟨e, hx _ (.of (s _ _ ea))⟩) hl
    (fun i y H' => ∃ d, ds[i]? = some d ∧ Gq H' y (f d)) (fun i y H H' k ⟨d, h1, h2⟩ => ⟨d, h1, h2.mono k⟩) ?_ ?_
  · intro i x H' Nx hx s hN
    obtain ⟨d, hdd, tx⟩ := tds.get hx
    exact hs x d H' Nx (List.mem_of_getElem? hdd) (tx.mono (Same.tl s)) fun y H4 s4 ty => hN y H4 s4 ⟨d, hdd, ty⟩
  · intro D ys H' nD eD hys hF s
    refine hd D ys H' nD eD (Gqs.of_get (by rw [List.length_map, hys, tds.length]) fun i y hy => ?_) s
    obtain ⟨d, h1, h2⟩ := hF i y hy
    exact ⟨_, by rw [List.getElem?_map, h1]; rfl, h2⟩
theorem lc_gqL {ds : List PyData} (ea : H1 a = some (.lst xs)) (hl : xs.length ≤ 100000) (tds : Gqs H1 xs ds) (f : PyData → PyData)
    (hs : ∀ (x : V) (d : PyData) H' (Nx : V → Hp → Prop), d ∈ ds → Gq H' x d → (∀ y H4, Same H' H4 → Gq H4 y (f d) → Nx y H4) → g x (wipe σ vs) H' fun σ2 H2 => wipe σ2 vs = wipe σ vs ∧ te σ2 H2 Nx)
    (hd : ∀ D (ys : List V) H', Fr H1 D → H' D = some (.lst ys) → Gqs H' ys (ds.map f) → Same H1 H' → Qd D H') : LcR (Itl K a) g tYes te vs σ H1 Qd := by
  refine lc_map_tl (xs := xs) (fun i H' hi s => ⟨_, _, .of (s _ _ ea), List.getElem?_eq_getElem hi⟩) (fun H' s => ⟨_, .of (s _ _ ea), Nat.le_refl _⟩) (fun i H' x H2 s ⟨e, hx⟩ => ⟨e, hx _ (.of (s _ _ ea))⟩) hl
    (fun i y H' => ∃ d, ds[i]? = some d ∧ Gq H' y (f d)) (fun i y H H' k ⟨d, h1, h2⟩ => ⟨d, h1, h2.mono k⟩) ?_ ?_
  · intro i x H' Nx hx s hN
    obtain ⟨d, hdd, tx⟩ := tds.get hx
    exact hs x d H' Nx (List.mem_of_getElem? hdd) (tx.mono (Same.tl s)) fun y H4 s4 ty => hN y H4 s4 ⟨d, hdd, ty⟩
  · intro D ys H' nD eD hys hF s
    refine hd D ys H' nD eD (Gqs.of_get (by rw [List.length_map, hys, tds.length]) fun i y hy => ?_) s
    obtain ⟨d, h1, h2⟩ := hF i y hy
    exact ⟨_, by rw [List.getElem?_map, h1]; rfl, h2⟩
end
theorem inV_two (s a b : Str) : inV (.str s) [.str a, .str b] = decide (s = a ∨ s = b) := by
  unfold inV
  simp only [List.any_cons, List.any_nil, L2.eqV, Bool.or_false]
  rw [Bool.eq_iff_iff]
  simp only [Bool.or_eq_true, beq_iff_eq, decide_eq_true_iff]
  constructor
  · rintro (h | h)
    · exact .inl h.symm
    · exact .inr h.symm
  · rintro (h | h)
    · exact .inl h.symm
    · exact .inr h.symm
def spPartsOfX : Sp := fun vs H Q _ => ∃ (v : V) (d : PyData), vs = [v] ∧ Gq H v d ∧ (kidsM d = none → ∀ H', Same H H' → Q .non H') ∧
  ∀ ks, kidsM d = some ks → ∀ (l : Addr) (us : List V) (H' : Hp), H l = none → H' l = some (.lst us) → Gqs H' us ks → Same H H' → Q (.ref l) H'
theorem pure_partsofX {K : PySem.W.Frag} {w : World} (T : KTab K w (He.ga K "PARTS") PARTSkvs) : PureOk 1 spPartsOfX (t_parts_of K w spIsWholeX spIsSmallX spIsNameX spAreRowsX) 2 := by
  refine ⟨fun vs H Q E ⟨_, _, e, _⟩ => by rw [e]; rfl, ?_⟩
  rintro vs H Q E ⟨v, d, rfl, t, qn, qs⟩
  show t_parts_of K w _ _ _ _ _ [some v, none] H
  unfold t_parts_of
  walk_at "gg"
  refine g_isiTup t ?_
  walk_at "gg"
  cases d with
  | tuple ds =>
    refine g_F rfl ?_
    obtain ⟨a, xs, rfl, ea, ts⟩ := t.tup_inv
    have hl := ts.length
    walk_at "gg"
    match ds, ts, hl, qn, qs with
    | [], ts, hl, qn, qs =>
      refine g_T (decide_eq_true (by rw [hl]; show (0 : Int) < 2; decide)) ?_
      walk_at "gg"
      exact qn rfl _ (.refl _)
    | [d0], ts, hl, qn, qs =>
      refine g_T (decide_eq_true (by rw [hl]; show (1 : Int) < 2; decide)) ?_
      walk_at "gg"
      refine qn ?_ _ (.refl _)
      cases d0 <;> rfl
    | d0 :: d1 :: r, ts, hl, qn, qs =>
      refine g_F (decide_eq_false (by rw [hl]; simp only [List.length_cons]; omega)) ?_
      obtain ⟨x0, us0, rfl, t0, tsa⟩ := ts.cons_inv
      obtain ⟨x1, us, rfl, t1, tsb⟩ := tsa.cons_inv
      clear tsa ts
      have hlr := tsb.length
      walk_at "gg"
      refine g_isiStr t0 ?_
      walk_at "gg"
      cases d0 with
      | str s =>
        obtain ⟨rfl, hsl⟩ := t0.str_inv
        have hk : kidsM (.tuple (.str s :: d1 :: r)) = (if s = "number" ∧ r.length = 0 ∧ smallM d1 = true then some []
          else if (s = "name" ∨ s = "fun") ∧ r.length = 0 ∧ nameM d1 = true then some []
          else if argsM s = some (r.length + 1) then some (d1 :: r)
          else if s = "let" ∧ r.length = 1 ∧ rowsM d1 = true then some ((tupM d1).map sndM ++ r)
          else none) := rfl
        rw [hk] at qn qs
        have hlen : ((V.str s :: x1 :: us).length : Int) = r.length + 2 := by simp only [List.length_cons, hlr]; omega
        clear hk hl t
        walk_at "gg"
        refine g_cutH (fun H' => Same H H' ∧ ¬ (s = "number" ∧ r.length = 0 ∧ smallM d1 = true)) (B := ?B1) (fun rest => ?f1) ?b1
        case f1 =>
          by_cases h1 : s = "number"
          · refine g_T (decide_eq_true h1) ?_
            walk_at "gg"
            by_cases h2 : r.length = 0
            · refine g_T (decide_eq_true (by rw [hlen, h2]; rfl)) ?_
              walk_at "gg"
              refine ⟨x1, d1, rfl, t1, fun H1 s1 => ?_⟩
              have ea1 := s1 _ _ ea
              walk_at "gg"
              by_cases h3 : wholeM d1 = true
              · refine g_T h3 ?_
                obtain ⟨n, hx, hd⟩ : ∃ n, x1 = V.int n ∧ d1 = .int n := by
                  cases t1 with
                  | int n => exact ⟨n, rfl, rfl⟩
                  | _ => cases h3
                walk_at "gg"
                refine ⟨n, by rw [hx]; rfl, ?_⟩
                by_cases h4 : n.natAbs < 10 ^ 60
                · rw [decide_eq_true h4]
                  walk_at "gg"
                  rename_i l H2 n2 e2 s2
                  exact qs [] (if_pos ⟨h1, h2, by rw [hd]; exact decide_eq_true h4⟩) l [] H2 (s1.free n2) e2 .nil (s1.trans s2)
                · rw [decide_eq_false h4]
                  refine g_trubl ?_
                  refine g_F rfl ?_
                  exact rest H1 ⟨s1, fun hh => h4 (by rw [hd] at hh; exact of_decide_eq_true hh.2.2)⟩
              · refine g_F (by simpa using h3) ?_
                refine g_F rfl ?_
                exact rest H1 ⟨s1, fun hh => h3 (by cases d1 <;> first | rfl | cases hh.2.2)⟩
            · refine g_F (decide_eq_false (by rw [hlen]; omega)) ?_
              refine g_F rfl ?_
              exact rest H ⟨.refl _, fun hh => h2 hh.2.1⟩
          · refine g_F (decide_eq_false h1) ?_
            refine g_F rfl ?_
            exact rest H ⟨.refl _, fun hh => h1 hh.1⟩
        rintro H1 ⟨s1, c1⟩
        rw [if_neg c1] at qn qs
        have ea1 := s1 _ _ ea
        have t11 := t1.mono (Same.tl s1)
        have ts1 := tsb.mono (Same.tl s1)
        clear ea t1 tsb
        walk_at "gg"
        rename_i tp H2 n2 e2 s2
        refine .inl ⟨tp, _, rfl, .inr (.of e2), rfl, rfl, ?_⟩
        rw [inV_two]
        walk_at "gg"
        have s02 := s1.trans s2
        have ea2 := s2 _ _ ea1
        have t12 := t11.mono (Same.tl s2)
        have ts2 := ts1.mono (Same.tl s2)
        clear ea1 t11 ts1 n2 e2
        refine g_cutH (fun H' => Same H H' ∧ Same H2 H' ∧ ¬ ((s = "name" ∨ s = "fun") ∧ r.length = 0 ∧ nameM d1 = true)) (B := ?B2) (fun rest => ?f2) ?b2
        case f2 =>
          by_cases h1 : s = "name" ∨ s = "fun"
          · refine g_T (decide_eq_true h1) ?_
            walk_at "gg"
            by_cases h2 : r.length = 0
            · refine g_T (decide_eq_true (by rw [hlen, h2]; rfl)) ?_
              walk_at "gg"
              refine ⟨x1, d1, rfl, t12, fun H3 s3 => ?_⟩
              walk_at "gg"
              by_cases h3 : nameM d1 = true
              · refine g_T h3 ?_
                walk_at "gg"
                rename_i l H4 n4 e4 s4
                exact qs [] (if_pos ⟨h1, h2, h3⟩) l [] H4 (s02.free (s3.free n4)) e4 .nil (s02.trans (s3.trans s4))
              · refine g_F (by simpa using h3) ?_
                exact rest H3 ⟨s02.trans s3, s3, fun hh => h3 hh.2.2⟩
            · refine g_F (decide_eq_false (by rw [hlen]; omega)) ?_
              refine g_F rfl ?_
              exact rest H2 ⟨s02, .refl _, fun hh => h2 hh.2.1⟩
          · refine g_F (decide_eq_false h1) ?_
            refine g_F rfl ?_
            exact rest H2 ⟨s02, .refl _, fun hh => h1 hh.1⟩
        rintro H3 ⟨s03, s23, c2⟩
        rw [if_neg c2] at qn qs
        have ea3 := s23 _ _ ea2
        have t13 := t12.mono (Same.tl s23)
        have ts3 := ts2.mono (Same.tl s23)
        clear ea2 t12 ts2 s1 s2 s02 s23
        walk_at "gg"
        refine g_inK T (args_find s).1 ?_
        walk_at "gg"
        refine g_cutH (fun H' => H' = H3 ∧ ¬ (argsM s = some (r.length + 1))) (B := ?B3) (fun rest => ?f3) ?b3
        case f3 =>
          cases hn : argsM s with
          | none =>
            refine g_F rfl ?_
            refine g_F rfl ?_
            exact rest H3 ⟨rfl, fun z => by rw [hn] at z; cases z⟩
          | some n =>
            obtain ⟨hv, hn3, hn1⟩ := (args_find s).2 n hn
            refine g_T rfl ?_
            walk_at "gg"
            refine g_ixKT T hv ?_
            walk_at "gg"
            by_cases h2 : n = r.length + 1
            · refine g_T (decide_eq_true (by rw [hlen, h2]; omega)) ?_
              walk_at "gg"
              refine g_slT (.of ea3) (not_whole (by simp)) fun p2 H4 n4 e4 s4 => ?_
              rw [cut_tail] at e4
              refine g_listT (.of e4) fun l H5 nl el s5 => ?_
              have s45 := s4.trans s5
              refine qs (d1 :: r) (if_pos (by rw [hn, h2])) l _ H5 (s03.free (s4.free nl)) el (.cons (t13.mono (Same.tl s45)) (ts3.mono (Same.tl s45))) (s03.trans s45)
            · refine g_F (decide_eq_false (by rw [hlen]; omega)) ?_
              exact rest H3 ⟨rfl, fun z => by rw [hn] at z; cases z; exact h2 rfl⟩
        rintro H3' ⟨rfl, c3⟩
        rw [if_neg c3] at qn qs
        walk_at "gg"
        by_cases h1 : s = "let"
        · refine g_T (decide_eq_true h1) ?_
          walk_at "gg"
          by_cases h2 : r.length = 1
          · refine g_T (decide_eq_true (by rw [hlen, h2]; rfl)) ?_
            walk_at "gg"
            obtain ⟨d2, rfl⟩ : ∃ d2, r = [d2] := by
              match r, h2 with
              | [d2], _ => exact ⟨d2, rfl⟩
            obtain ⟨x2, us, rfl, t2, ts4⟩ := ts3.cons_inv
            rw [ts4.nil_inv] at ea3
            refine ⟨x1, d1, rfl, t13, fun H4 s4 => ?_⟩
            have ea4 := s4 _ _ ea3
            have t14 := t13.mono (Same.tl s4)
            have t24 := t2.mono (Same.tl s4)
            have s04 := s03.trans s4
            clear ea3 t13 t2 ts3 s03 s4
            walk_at "gg"
            by_cases h3 : rowsM d1 = true
            · refine g_T h3 ?_
              have qs' := qs _ (if_pos ⟨h1, h2, h3⟩)
              unfold rowsM at h3
              split at h3
              · rename_i rs
                simp only [Bool.and_eq_true, decide_eq_true_iff, List.all_eq_true] at h3
                obtain ⟨h31, h32, h33⟩ := h3
                obtain ⟨ra, rxs, rfl, er, tr⟩ := t14.tup_inv
                have hrl := tr.length
                walk_at "gg"
                refine g_seqT ?_
                walk_at "gg"
                refine lc_gqT er (by omega) tr sndM ?_ ?_
                · intro x d H' Nx hdm tx hN
                  have hrow := h33 d hdm
                  unfold rowM at hrow
                  split at hrow
                  · rename_i e1 e2
                    obtain ⟨ra2, ys, rfl, er2, ty⟩ := tx.tup_inv
                    obtain ⟨y1, ys, rfl, ty1, ty⟩ := ty.cons_inv
                    obtain ⟨y2, ys, rfl, ty2, ty⟩ := ty.cons_inv
                    walk_at "gg"
                    refine ⟨rfl, ?_⟩
                    walk_at "gg"
                    exact hN y2 _ (.refl _) ty2
                  · cases hrow
                · intro D ys H5 nD eD tys s5
                  have hyl := tys.length
                  rw [List.length_map] at hyl
                  walk_at "gg"
                  rename_i l6 H6 n6 e6 s6 l7 H7 n7 e7 s7
                  have s67 := s6.trans s7
                  exact qs' l7 _ H7 (s04.free (s5.free (s6.free n7))) e7 ((tys.mono (Same.tl s67)).append (.one (t24.mono (Same.tl (s5.trans s67))))) (s04.trans (s5.trans s67))
              · cases h3
            · refine g_F (by simpa using h3) ?_
              walk_at "gg"
              exact qn (if_neg fun hh => h3 hh.2.2) _ s04
          · refine g_F (decide_eq_false (by rw [hlen]; omega)) ?_
            walk_at "gg"
            exact qn (if_neg fun hh => h2 hh.2.1) _ s03
        · refine g_F (decide_eq_false h1) ?_
          walk_at "gg"
          exact qn (if_neg fun hh => h1 hh.1) _ s03
      | _ => exact qn rfl _ (.refl _)
  | _ => exact qn rfl _ (.refl _)

/-! ### bodies, functions, programs: of anything -/
def gpd (q : PyData × Nat) : PyData := .tuple [q.1, .int q.2]
/-- a pile of parts with their depths, the one that is next at first -/
def runB : Nat → Nat → List (PyData × Nat) → Bool
  | _, _, [] => true
  | 0, _, _ :: _ => false
  | f + 1, many, (d, deep) :: st => match kidsM d with
    | none => false
    | some ks => if deep > 12 ∨ many + 1 > 60 then false else runB f (many + 1) ((ks.map fun k => (k, deep + 1)).reverse ++ st)
def bodyM (d : PyData) : Bool := runB 61 0 [(d, 1)]
def spIsBodyX : Sp := fun vs H Q _ => ∃ (v : V) (d : PyData), vs = [v] ∧ Gq H v d ∧ ∀ H', Same H H' → Q (.bl (bodyM d)) H'
theorem pure_isbodyX {K : PySem.W.Frag} {w : World} : PureOk 1 spIsBodyX (t_is_body K w spPartsOfX) 7 := by
  refine ⟨fun vs H Q E ⟨_, _, e, _⟩ => by rw [e]; rfl, ?_⟩
  rintro vs H Q E ⟨v, d, rfl, t, q⟩
  show t_is_body K w _ _ [some v, none, none, none, none, none, none] H
  unfold t_is_body
  walk_at "gg"
  rename_i a1 H1 n1 e1 s1 pl H2 n2 e2 s2
  have npl : H pl = none := s1.free n2
  refine while_any (fun m σ H' => ∃ (x3 x4 x5 x6 : Option V) (many : Nat) (vs : List V) (st : List (PyData × Nat)), σ = [some v, some (.int many), some (.ref pl), x3, x4, x5, x6] ∧ H' pl = some (.lst vs) ∧ Gqs H' vs (st.reverse.map gpd) ∧
      many ≤ 60 ∧ vs.length ≤ 5 * many + 1 ∧ runB (61 - many) many st = bodyM d ∧ m = 61 - many ∧ Same H H') 61
    ⟨none, none, none, none, 0, [.ref a1], [(d, 1)], rfl, e2, .cons (.tup (s2 _ _ e1) (.cons (t.mono (Same.tl (s1.trans s2))) (.one (.int _)))) .nil, by omega, by simp, rfl, rfl, s1.trans s2⟩ ?_
  rintro m σ H3 ⟨x3, x4, x5, x6, many, vs, st, rfl, hp, tp, hm60, hvl, hrun, rfl, s3⟩
  walk_at "gg"
  rename_i l4 H4 n4 e4 s4
  have s04 := s3.trans s4
  have hp4 := s4 _ _ hp
  cases st with
  | nil =>
    have hvs : vs = [] := List.eq_nil_of_length_eq_zero (by rw [tp.length]; rfl)
    subst hvs
    refine g_F rfl ?_
    walk_at "gg"
    have e : bodyM d = true := by rw [← hrun]; cases 61 - many <;> rfl
    rw [← e]
    exact q _ s04
  | cons q1 st' =>
    obtain ⟨d1, k1⟩ := q1
    rw [List.reverse_cons, List.map_append] at tp
    obtain ⟨vs', v1, rfl, tp', t1⟩ := Gqs.snoc_inv tp
    have hvl' : vs'.length ≤ 5 * many := by rw [List.length_append, List.length_singleton] at hvl; omega
    refine g_T (by cases vs' <;> rfl) ?_
    refine g_turn ?_
    obtain ⟨a5, us, rfl, ea5, tu⟩ := Gq.tup_inv (ds := [d1, .int k1]) t1
    obtain ⟨u1, us, rfl, tu1, tu⟩ := tu.cons_inv
    obtain ⟨u2, us, rfl, tu2, tu⟩ := tu.cons_inv
    rw [tu.nil_inv] at ea5
    have hu2 : u2 = .int k1 := by cases tu2; rfl
    subst hu2
    have tp4' := tp'.mono (Same.tl s4)
    have tu14 := tu1.mono (Same.tl s4)
    have ea54 := s4 _ _ ea5
    clear tp tu1 ea5 hp s3 s4 e4 n4 t1 tp' tu tu2
    walk_at "gg"
    refine g_pop hp4 ?_
    walk_at "gg"
    rename_i H5 e5 c5
    have s05 : Same H H5 := Same.chg s04 npl c5
    have k45 : Tl H4 H5 := c5.tl hp4 e5
    have tp5' := tp4'.mono k45
    have tu15 := tu14.mono k45
    have ea55 := k45.tup _ _ ea54
    clear tp4' tu14 ea54 k45 hp4 c5 s04
    refine g_un2 ea55 ?_
    walk_at "gg"
    have hr2 : runB (61 - many) many ((d1, k1) :: st') = match kidsM d1 with
        | none => false
        | some ks => if k1 > 12 ∨ many + 1 > 60 then false else runB (60 - many) (many + 1) ((ks.map fun k => (k, k1 + 1)).reverse ++ st') := by
      have e : 61 - many = (60 - many) + 1 := by omega
      rw [e]; rfl
    rw [hr2] at hrun
    refine ⟨u1, d1, rfl, tu15, fun hno H7 s7 => ?_, fun ks hks l us H7 nl7 el7 tk7 s7 => ?_⟩
    · rw [hno] at hrun
      have hrun' : false = bodyM d := hrun
      walk_at "gg"
      refine .inl ⟨rfl, ?_⟩
      walk_at "gg"
      rw [hrun']
      exact q _ (s05.trans s7)
    rw [hks] at hrun
    dsimp only at hrun
    have hkl := kidsM_len hks
    have hul := tk7.length
    have e75 := s7 _ _ e5
    have tp7' := tp5'.mono (Same.tl s7)
    have s07 := s05.trans s7
    clear e5 tp5' tu15 ea55 s05 s7
    walk_at "gg"
    refine .inl ⟨rfl, ?_⟩
    walk_at "gg"
    by_cases h12 : k1 > 12
    · rw [if_pos (.inl h12)] at hrun
      refine g_T (decide_eq_true (by omega)) ?_
      walk_at "gg"
      rw [hrun]
      exact q _ s07
    refine g_F (decide_eq_false (by omega)) ?_
    walk_at "gg"
    by_cases h60 : many + 1 > 60
    · rw [if_pos (.inr h60)] at hrun
      refine g_T (decide_eq_true (by omega)) ?_
      walk_at "gg"
      rw [hrun]
      exact q _ s07
    refine g_F (decide_eq_false (by omega)) ?_
    rw [if_neg (fun h => h.elim h12 h60)] at hrun
    walk_at "gg"
    refine g_seqL ?_
    walk_at "gg"
    refine lc_gqL el7 (by omega) tk7 (fun k => gpd (k, k1 + 1)) ?_ ?_
    · intro x dx H' Nx hx tx hN
      walk_at "gg"
      refine ⟨rfl, ?_⟩
      walk_at "gg"
      rename_i a8 H8 n8 e8 s8
      exact hN _ _ s8 (.tup e8 (.cons (tx.mono (Same.tl s8)) (.one (.int _))))
    · intro D ys H8 nD eD tys s8
      have hyl := tys.length
      rw [List.length_map] at hyl
      have e85 := s8 _ _ e75
      walk_at "gg"
      refine g_extend e85 eD (by show _ ≤ 16777216; omega) ?_
      walk_at "gg"
      rename_i H9 e9 c9
      have k89 : Tl H8 H9 := c9.tl e85 e9
      refine ⟨61 - (many + 1), by omega, _, _, _, _, many + 1, _, (ks.map fun k => (k, k1 + 1)).reverse ++ st', rfl, e9, ?_, by omega, ?_, ?_, rfl, Same.chg (s07.trans s8) npl c9⟩
      · rw [List.reverse_append, List.reverse_reverse, List.map_append, List.map_map]
        exact Gqs.append ((tp7'.mono (Same.tl s8)).mono k89) (tys.mono k89)
      · rw [List.length_append]; omega
      · rw [show 61 - (many + 1) = 60 - many from by omega]; exact hrun
def functionM : PyData → Bool
  | .tuple [n, .tuple ths, b] => nameM n && (decide (ths.length ≤ 4) && (ths.all nameM && bodyM b))
  | _ => false
def spIsFunctionX : Sp := fun vs H Q _ => ∃ (v : V) (d : PyData), vs = [v] ∧ Gq H v d ∧ ∀ H', Same H H' → Q (.bl (functionM d)) H'
theorem pure_isfunctionX {K : PySem.W.Frag} {w : World} : PureOk 1 spIsFunctionX (t_is_function K w spIsNameX spIsBodyX) 2 := by
  refine ⟨fun vs H Q E ⟨_, _, e, _⟩ => by rw [e]; rfl, ?_⟩
  rintro vs H Q E ⟨v, d, rfl, t, q⟩
  show t_is_function K w _ _ _ [some v, none] H
  unfold t_is_function
  walk_at "gg"
  refine g_isiTup t ?_
  walk_at "gg"
  cases d with
  | tuple ds =>
    refine g_F rfl ?_
    obtain ⟨a, xs, rfl, ea, ts⟩ := t.tup_inv
    have hl := ts.length
    clear t
    walk_at "gg"
    match ds, ts, hl, q with
    | [d0, d1, d2], ts, hl, q =>
      refine g_F (by rw [decide_eq_true (by rw [hl]; rfl)]; rfl) ?_
      obtain ⟨x0, us0, rfl, t0, tsa⟩ := ts.cons_inv
      obtain ⟨x1, us1, rfl, t1, tsb⟩ := tsa.cons_inv
      obtain ⟨x2, us2, rfl, t2, tsc⟩ := tsb.cons_inv
      rw [tsc.nil_inv] at ea
      clear tsa tsb tsc ts
      walk_at "gg"
      refine ⟨x0, d0, rfl, t0, fun H1 s1 => ?_⟩
      have ea1 := s1 _ _ ea
      have t11 := t1.mono (Same.tl s1)
      have t21 := t2.mono (Same.tl s1)
      clear ea t0 t1 t2
      walk_at "gg"
      by_cases h0 : nameM d0 = true
      · refine g_F (by rw [h0]; rfl) ?_
        walk_at "gg"
        refine g_isiTup t11 ?_
        walk_at "gg"
        cases d1 with
        | tuple ths =>
          refine g_F rfl ?_
          obtain ⟨b, ys, rfl, eb, ty⟩ := t11.tup_inv
          have hyl := ty.length
          have hq : ∀ H', Same H H' → Q (.bl (decide (ths.length ≤ 4) && (ths.all nameM && bodyM d2))) H' := fun H' s' => by
            have := q H' s'
            rwa [show functionM (.tuple [d0, .tuple ths, d2]) = (nameM d0 && (decide (ths.length ≤ 4) && (ths.all nameM && bodyM d2))) from rfl, h0, Bool.true_and] at this
          walk_at "gg"
          by_cases h4 : ths.length ≤ 4
          · refine g_T (decide_eq_true (by omega)) ?_
            rw [decide_eq_true h4] at hq
            walk_at "gg"
            refine g_seqT ?_
            walk_at "gg"
            refine lc_testT (f := nameM) eb ty (by omega) ?_ ?_
            · intro x d H' Nx tx hN
              walk_at "gg"
              refine ⟨rfl, ?_⟩
              walk_at "gg"
              exact ⟨x, d, rfl, tx, hN⟩
            · intro D H' nD eD s
              walk_at "gg"
              refine ⟨D, _, rfl, SqL.of eD, ?_⟩
              rw [all_mapD]
              walk_at "gg"
              by_cases h5 : ths.all nameM = true
              · refine g_T h5 ?_
                rw [h5] at hq
                walk_at "gg"
                exact ⟨x2, d2, rfl, t21.mono (Same.tl s), fun H'' s2 => hq H'' (s1.trans (s.trans s2))⟩
              · have h5' : ths.all nameM = false := by simpa using h5
                refine g_F h5' ?_
                rw [h5'] at hq ⊢
                exact hq H' (s1.trans s)
          · refine g_F (decide_eq_false (by omega)) ?_
            rw [decide_eq_false h4] at hq
            rw [decide_eq_false (by omega)]
            exact hq H1 s1
        | _ =>
          refine g_T rfl ?_
          walk_at "gg"
          exact q H1 s1
      · have h0' : nameM d0 = false := by simpa using h0
        refine g_T (by rw [h0']; rfl) ?_
        walk_at "gg"
        have := q H1 s1
        cases d1 with
        | tuple ths =>
          rwa [show functionM (.tuple [d0, .tuple ths, d2]) = (nameM d0 && (decide (ths.length ≤ 4) && (ths.all nameM && bodyM d2))) from rfl, h0', Bool.false_and] at this
        | _ => exact this
    | [], ts, hl, q =>
      refine g_T (by rw [decide_eq_false (by rw [hl]; show ¬ ((0 : Int) = 3); decide)]; rfl) ?_
      walk_at "gg"
      exact q H (.refl _)
    | [_], ts, hl, q =>
      refine g_T (by rw [decide_eq_false (by rw [hl]; show ¬ ((1 : Int) = 3); decide)]; rfl) ?_
      walk_at "gg"
      exact q H (.refl _)
    | [_, d1], ts, hl, q =>
      refine g_T (by rw [decide_eq_false (by rw [hl]; show ¬ ((2 : Int) = 3); decide)]; rfl) ?_
      walk_at "gg"
      have := q H (.refl _)
      cases d1 <;> exact this
    | _ :: d1 :: _ :: _ :: _, ts, hl, q =>
      refine g_T (by rw [decide_eq_false (by rw [hl]; simp only [List.length_cons]; omega)]; rfl) ?_
      walk_at "gg"
      have := q H (.refl _)
      cases d1 <;> exact this
  | _ =>
    refine g_T rfl ?_
    walk_at "gg"
    exact q H (.refl _)
def builtM : PyData → Bool
  | .tuple [.tuple fs, b] => decide (fs.length ≤ 8) && (fs.all functionM && bodyM b)
  | _ => false
def spIsBuiltX : Sp := fun vs H Q _ => ∃ (v : V) (d : PyData), vs = [v] ∧ Gq H v d ∧ ∀ H', Same H H' → Q (.bl (builtM d)) H'
theorem pure_isbuiltX {K : PySem.W.Frag} {w : World} : PureOk 1 spIsBuiltX (t_is_built K w spIsFunctionX spIsBodyX) 2 := by
  refine ⟨fun vs H Q E ⟨_, _, e, _⟩ => by rw [e]; rfl, ?_⟩
  rintro vs H Q E ⟨v, d, rfl, t, q⟩
  show t_is_built K w _ _ _ [some v, none] H
  unfold t_is_built
  walk_at "gg"
  refine g_isiTup t ?_
  walk_at "gg"
  cases d with
  | tuple ds =>
    refine g_F rfl ?_
    obtain ⟨a, xs, rfl, ea, ts⟩ := t.tup_inv
    have hl := ts.length
    clear t
    walk_at "gg"
    match ds, ts, hl, q with
    | [d1, d2], ts, hl, q =>
      refine g_F (by rw [decide_eq_true (by rw [hl]; rfl)]; rfl) ?_
      obtain ⟨x1, us1, rfl, t1, tsb⟩ := ts.cons_inv
      obtain ⟨x2, us2, rfl, t2, tsc⟩ := tsb.cons_inv
      rw [tsc.nil_inv] at ea
      clear tsb tsc ts
      walk_at "gg"
      refine g_isiTup t1 ?_
      walk_at "gg"
      cases d1 with
      | tuple ths =>
        refine g_F rfl ?_
        obtain ⟨b, ys, rfl, eb, ty⟩ := t1.tup_inv
        have hyl := ty.length
        have hq : ∀ H', Same H H' → Q (.bl (decide (ths.length ≤ 8) && (ths.all functionM && bodyM d2))) H' := q
        walk_at "gg"
        by_cases h4 : ths.length ≤ 8
        · refine g_T (decide_eq_true (by omega)) ?_
          rw [decide_eq_true h4] at hq
          walk_at "gg"
          refine g_seqT ?_
          walk_at "gg"
          refine lc_testT (f := functionM) eb ty (by omega) ?_ ?_
          · intro x d H' Nx tx hN
            walk_at "gg"
            refine ⟨rfl, ?_⟩
            walk_at "gg"
            exact ⟨x, d, rfl, tx, hN⟩
          · intro D H' nD eD s
            walk_at "gg"
            refine ⟨D, _, rfl, SqL.of eD, ?_⟩
            rw [all_mapD]
            walk_at "gg"
            by_cases h5 : ths.all functionM = true
            · refine g_T h5 ?_
              rw [h5] at hq
              walk_at "gg"
              exact ⟨x2, d2, rfl, t2.mono (Same.tl s), fun H'' s2 => hq H'' (s.trans s2)⟩
            · have h5' : ths.all functionM = false := by simpa using h5
              refine g_F h5' ?_
              rw [h5'] at hq ⊢
              exact hq H' s
        · refine g_F (decide_eq_false (by omega)) ?_
          rw [decide_eq_false h4] at hq
          rw [decide_eq_false (by omega)]
          exact hq H (.refl _)
      | _ =>
        refine g_T rfl ?_
        walk_at "gg"
        exact q H (.refl _)
    | [], ts, hl, q =>
      refine g_T (by rw [decide_eq_false (by rw [hl]; show ¬ ((0 : Int) = 2); decide)]; rfl) ?_
      walk_at "gg"
      exact q H (.refl _)
    | [d1], ts, hl, q =>
      refine g_T (by rw [decide_eq_false (by rw [hl]; show ¬ ((1 : Int) = 2); decide)]; rfl) ?_
      walk_at "gg"
      have := q H (.refl _)
      cases d1 <;> exact this
    | d1 :: _ :: _ :: _, ts, hl, q =>
      refine g_T (by rw [decide_eq_false (by rw [hl]; simp only [List.length_cons]; omega)]; rfl) ?_
      walk_at "gg"
      have := q H (.refl _)
      cases d1 <;> exact this
  | _ =>
    refine g_T rfl ?_
    walk_at "gg"
    exact q H (.refl _)

/-! ### what is let by is a program's data -/
mutual
/-- a part of the right kinds: names, small numbers, one to four rows -/
def Part.shape : Part → Prop
  | .num n => n.natAbs < 10 ^ 60
  | .name x => isName x
  | .fn f => isName f
  | .one _ a => a.shape
  | .two _ a b => a.shape ∧ b.shape
  | .whn a b c => a.shape ∧ b.shape ∧ c.shape
  | .letp r a => r.names.length ≤ 4 ∧ r.names ≠ [] ∧ (∀ x ∈ r.names, isName x) ∧ r.shape ∧ a.shape
  | .shut _ => False
def Rows.shape : Rows → Prop
  | .nil => True
  | .cons _ a r => a.shape ∧ r.shape
end
mutual
def Part.uses : Part → List Str
  | .num _ => []
  | .name x => [x]
  | .fn f => [f]
  | .one _ a => a.uses
  | .two _ a b => a.uses ++ b.uses
  | .whn a b c => a.uses ++ (b.uses ++ c.uses)
  | .letp r a => r.uses ++ a.uses
  | .shut _ => []
def Rows.uses : Rows → List Str
  | .nil => []
  | .cons _ a r => a.uses ++ r.uses
end
mutual
theorem Part.shape.ok : ∀ {p : Part}, p.shape → ∀ {fs sc : List Str}, (∀ x ∈ p.uses, x ∈ fs ∧ x ∈ sc) → p.ok fs sc
  | .num n, h, _, _, _ => h
  | .name x, h, _, _, u => ⟨(u x (List.mem_singleton.mpr rfl)).2, h⟩
  | .fn x, h, _, _, u => ⟨(u x (List.mem_singleton.mpr rfl)).1, h⟩
  | .one _ a, h, _, _, u => Part.shape.ok (p := a) h u
  | .two _ a b, h, _, _, u => ⟨Part.shape.ok (p := a) h.1 fun x hx => u x (List.mem_append.mpr (.inl hx)), Part.shape.ok (p := b) h.2 fun x hx => u x (List.mem_append.mpr (.inr hx))⟩
  | .whn a b c, h, _, _, u => ⟨Part.shape.ok (p := a) h.1 fun x hx => u x (List.mem_append.mpr (.inl hx)), Part.shape.ok (p := b) h.2.1 fun x hx => u x (List.mem_append.mpr (.inr (List.mem_append.mpr (.inl hx)))), Part.shape.ok (p := c) h.2.2 fun x hx => u x (List.mem_append.mpr (.inr (List.mem_append.mpr (.inr hx))))⟩
  | .letp r a, h, _, _, u => ⟨h.1, h.2.1, h.2.2.1, Rows.shape.ok (r := r) h.2.2.2.1 fun x hx => ⟨(u x (List.mem_append.mpr (.inl hx))).1, List.mem_append.mpr (.inl (u x (List.mem_append.mpr (.inl hx))).2)⟩,
      Part.shape.ok (p := a) h.2.2.2.2 fun x hx => ⟨(u x (List.mem_append.mpr (.inr hx))).1, List.mem_append.mpr (.inl (u x (List.mem_append.mpr (.inr hx))).2)⟩⟩
  | .shut _, h, _, _, _ => h.elim
theorem Rows.shape.ok : ∀ {r : Rows}, r.shape → ∀ {fs sc : List Str}, (∀ x ∈ r.uses, x ∈ fs ∧ x ∈ sc) → r.ok fs sc
  | .nil, _, _, _, _ => trivial
  | .cons _ a r, h, _, _, u => ⟨Part.shape.ok (p := a) h.1 fun x hx => u x (List.mem_append.mpr (.inl hx)), Rows.shape.ok (r := r) h.2 fun x hx => u x (List.mem_append.mpr (.inr hx))⟩
end
mutual
theorem Part.ok.shape : ∀ {p : Part} {fs sc : List Str}, p.ok fs sc → p.shape
  | .num n, _, _, h => h
  | .name x, _, _, h => h.2
  | .fn x, _, _, h => h.2
  | .one _ a, _, _, h => Part.ok.shape (p := a) h
  | .two _ a b, _, _, h => ⟨Part.ok.shape (p := a) h.1, Part.ok.shape (p := b) h.2⟩
  | .whn a b c, _, _, h => ⟨Part.ok.shape (p := a) h.1, Part.ok.shape (p := b) h.2.1, Part.ok.shape (p := c) h.2.2⟩
  | .letp r a, _, _, h => ⟨h.1, h.2.1, h.2.2.1, Rows.ok.shape (r := r) h.2.2.2.1, Part.ok.shape (p := a) h.2.2.2.2⟩
  | .shut _, _, _, h => h.elim
theorem Rows.ok.shape : ∀ {r : Rows} {fs sc : List Str}, r.ok fs sc → r.shape
  | .nil, _, _, _ => trivial
  | .cons _ a r, _, _, h => ⟨Part.ok.shape (p := a) h.1, Rows.ok.shape (r := r) h.2⟩
end
structure Part.bd (p : Part) : Prop where
  shape : p.shape
  deep : p.deep ≤ 12
  size : p.size ≤ 60
theorem Part.bd.good {p : Part} (h : p.bd) : p.good := ⟨⟨p.uses, p.uses, h.shape.ok fun x hx => ⟨hx, hx⟩⟩, h.deep⟩
theorem Part.fine.bd {fs sc : List Str} {p : Part} (h : p.fine fs sc) : p.bd := ⟨Part.ok.shape h.ok, h.deep, h.size⟩
theorem Rows.shape_parts : ∀ {r : Rows}, (∀ p ∈ r.parts, p.shape) → r.shape
  | .nil, _ => trivial
  | .cons _ a r, h => ⟨h a List.mem_cons_self, Rows.shape_parts fun p hp => h p (List.mem_cons_of_mem _ hp)⟩
theorem Rows.parts_shape : ∀ {r : Rows}, r.shape → ∀ p ∈ r.parts, p.shape
  | .nil, _, p, hp => by cases hp
  | .cons _ a r, h, p, hp => by
    rcases List.mem_cons.mp hp with rfl | hp
    · exact h.1
    · exact Rows.parts_shape h.2 p hp
theorem Part.shape.kids {p : Part} (h : p.shape) : ∀ q ∈ p.kids, q.shape := by
  intro q hq
  cases p with
  | num n => cases hq
  | name x => cases hq
  | fn f => cases hq
  | one k a => rw [List.mem_singleton.mp hq]; exact h
  | two k a b =>
    simp only [Part.kids, List.mem_cons, List.not_mem_nil, or_false] at hq
    rcases hq with rfl | rfl
    · exact h.1
    · exact h.2
  | whn a b c =>
    simp only [Part.kids, List.mem_cons, List.not_mem_nil, or_false] at hq
    rcases hq with rfl | rfl | rfl
    · exact h.1
    · exact h.2.1
    · exact h.2.2
  | letp r a =>
    rcases List.mem_append.mp hq with hq | hq
    · exact Rows.parts_shape h.2.2.2.1 q hq
    · rw [List.mem_singleton.mp hq]; exact h.2.2.2.2
  | shut a => cases hq
theorem nameM_inv {d : PyData} (h : nameM d = true) : ∃ s, d = .str s ∧ isName s := by
  cases d with
  | str s => exact ⟨s, rfl, of_decide_eq_true h⟩
  | _ => cases h
theorem rowM_inv {d : PyData} (h : rowM d = true) : ∃ x e, d = .tuple [.str x, e] ∧ isName x := by
  unfold rowM at h
  split at h
  · rename_i a e
    obtain ⟨s, rfl, hs⟩ := nameM_inv h
    exact ⟨s, e, rfl, hs⟩
  · cases h
theorem rows_decode : ∀ {rows : List PyData}, (∀ d ∈ rows, rowM d = true) → ∀ {ps : List Part}, rows.map sndM = ps.map Part.data → ∃ r : Rows, r.datas = rows ∧ r.parts = ps ∧ (∀ x ∈ r.names, isName x) ∧ r.names.length = rows.length
  | [], _, [], _ => ⟨.nil, rfl, rfl, fun x hx => (List.not_mem_nil hx).elim, rfl⟩
  | [], _, _ :: _, e => by simp at e
  | _ :: _, _, [], e => by simp at e
  | d :: rows, h, p :: ps, e => by
    rw [List.map_cons, List.map_cons] at e
    obtain ⟨e1, e2⟩ := List.cons.inj e
    obtain ⟨r, h1, h2, h3, h4⟩ := rows_decode (fun d hd => h d (List.mem_cons_of_mem _ hd)) e2
    obtain ⟨x, u, rfl, hx⟩ := rowM_inv (h d List.mem_cons_self)
    have e1' : u = p.data := e1
    subst e1'
    refine ⟨.cons x p r, by show _ :: r.datas = _; rw [h1], by show p :: r.parts = _; rw [h2], fun y hy => ?_, by show r.names.length + 1 = rows.length + 1; rw [h4]⟩
    rcases List.mem_cons.mp hy with rfl | hy
    · exact hx
    · exact h3 y hy
theorem argsM_inv {s : Str} {n : Nat} (h : argsM s = some n) : (∃ k : K1, s = k.word ∧ n = 1) ∨ (∃ k : K2, s = k.word ∧ n = 2) ∨ (s = "when" ∧ n = 3) := by
  unfold argsM at h
  cases e : PARTSkvs.find? fun q => decide (q.1 = s) with
  | none => rw [e] at h; cases h
  | some q =>
    rw [e] at h
    have hm := List.mem_of_find?_eq_some e
    have hp := List.find?_some e
    have he : q.1 = s := of_decide_eq_true hp
    simp only [PARTSkvs, List.mem_cons, List.not_mem_nil, or_false] at hm
    rcases hm with rfl | rfl | rfl | rfl | rfl | rfl | rfl | rfl | rfl <;> (dsimp only at he; subst he; cases h)
    · exact .inr (.inl ⟨.give, rfl, rfl⟩)
    · exact .inr (.inl ⟨.plus, rfl, rfl⟩)
    · exact .inr (.inl ⟨.less, rfl, rfl⟩)
    · exact .inr (.inl ⟨.times, rfl, rfl⟩)
    · exact .inr (.inl ⟨.below, rfl, rfl⟩)
    · exact .inr (.inr ⟨rfl, rfl⟩)
    · exact .inr (.inl ⟨.pair, rfl, rfl⟩)
    · exact .inl ⟨.left, rfl, rfl⟩
    · exact .inl ⟨.right, rfl, rfl⟩
theorem argsM_1 (k : K1) : argsM k.word = some 1 := by cases k <;> decide +kernel
theorem argsM_2 (k : K2) : argsM k.word = some 2 := by cases k <;> decide +kernel
theorem argsM_3 : argsM "when" = some 3 := by decide +kernel
theorem kidsM_decode {d : PyData} {ks : List PyData} (h : kidsM d = some ks) {ps : List Part} (e : ks = ps.map Part.data) (hs : ∀ p ∈ ps, p.shape) : ∃ p : Part, p.data = d ∧ p.shape ∧ p.kids = ps := by
  subst e
  unfold kidsM at h
  split at h
  · rename_i s d r
    split at h
    · rename_i h1
      obtain ⟨rfl, h2, h3⟩ := h1
      have hr : r = [] := List.eq_nil_of_length_eq_zero h2
      subst hr
      have hps : ps = [] := by have := Option.some.inj h; simpa using this.symm
      subst hps
      cases d with
      | int n => exact ⟨.num n, rfl, of_decide_eq_true (p := n.natAbs < 10 ^ 60) h3, rfl⟩
      | _ => cases h3
    · split at h
      · rename_i h1
        obtain ⟨h1, h2, h3⟩ := h1
        have hr : r = [] := List.eq_nil_of_length_eq_zero h2
        subst hr
        have hps : ps = [] := by have := Option.some.inj h; simpa using this.symm
        subst hps
        obtain ⟨x, rfl, hx⟩ := nameM_inv h3
        rcases h1 with rfl | rfl
        · exact ⟨.name x, rfl, hx, rfl⟩
        · exact ⟨.fn x, rfl, hx, rfl⟩
      · split at h
        · rename_i h3
          have hd : d :: r = ps.map Part.data := Option.some.inj h
          have hl : r.length + 1 = ps.length := by have := congrArg List.length hd; simpa using this
          rcases argsM_inv h3 with ⟨k, rfl, hn⟩ | ⟨k, rfl, hn⟩ | ⟨rfl, hn⟩
          · match ps, hl, hd, hs with
            | [a], _, hd, hs =>
              obtain ⟨rfl, rfl⟩ := List.cons.inj hd
              exact ⟨.one k a, rfl, hs a List.mem_cons_self, rfl⟩
            | [], hl, _, _ => simp at hl
            | _ :: _ :: _, hl, _, _ => simp only [List.length_cons] at hl; omega
          · match ps, hl, hd, hs with
            | [a, b], _, hd, hs =>
              obtain ⟨rfl, rfl⟩ := List.cons.inj hd
              exact ⟨.two k a b, rfl, ⟨hs a (by simp), hs b (by simp)⟩, rfl⟩
            | [], hl, _, _ => simp at hl
            | [_], hl, _, _ => simp only [List.length_cons, List.length_nil] at hl; omega
            | _ :: _ :: _ :: _, hl, _, _ => simp only [List.length_cons] at hl; omega
          · match ps, hl, hd, hs with
            | [a, b, c], _, hd, hs =>
              obtain ⟨rfl, rfl⟩ := List.cons.inj hd
              exact ⟨.whn a b c, rfl, ⟨hs a (by simp), hs b (by simp), hs c (by simp)⟩, rfl⟩
            | [], hl, _, _ => simp at hl
            | [_], hl, _, _ => simp only [List.length_cons, List.length_nil] at hl; omega
            | [_, _], hl, _, _ => simp only [List.length_cons, List.length_nil] at hl; omega
            | _ :: _ :: _ :: _ :: _, hl, _, _ => simp only [List.length_cons] at hl; omega
        · split at h
          · rename_i h4
            obtain ⟨rfl, h5, h6⟩ := h4
            obtain ⟨d2, rfl⟩ : ∃ d2, r = [d2] := by
              match r, h5 with
              | [d2], _ => exact ⟨d2, rfl⟩
            cases d with
            | tuple rows =>
              have h6' : (decide (1 ≤ rows.length) && (decide (rows.length ≤ 4) && rows.all rowM)) = true := h6
              simp only [Bool.and_eq_true, decide_eq_true_iff, List.all_eq_true] at h6'
              obtain ⟨h7, h8, h9⟩ := h6'
              have hd : rows.map sndM ++ [d2] = ps.map Part.data := Option.some.inj h
              obtain ⟨ps1, ps2, rfl, hd1, hd2⟩ := List.map_eq_append_iff.mp hd.symm
              obtain ⟨b, ps3, rfl, hb, hd3⟩ := List.map_eq_cons_iff.mp hd2
              have : ps3 = [] := by simpa using hd3
              subst this
              obtain ⟨rr, q1, q2, q3, q4⟩ := rows_decode h9 hd1.symm
              refine ⟨.letp rr b, ?_, ⟨by omega, fun z => by rw [z] at q4; simp at q4; omega, q3, Rows.shape_parts fun p hp => hs p (by rw [q2] at hp; simp [hp]), hs b (by simp)⟩, by show rr.parts ++ [b] = _; rw [q2]⟩
              show PyData.tuple [.str "let", .tuple rr.datas, b.data] = _
              rw [q1, hb]
            | _ => cases h6
          · cases h
  · cases h
theorem kidsM_eq (s : Str) (d : PyData) (r : List PyData) : kidsM (.tuple (.str s :: d :: r)) = (if s = "number" ∧ r.length = 0 ∧ smallM d = true then some []
    else if (s = "name" ∨ s = "fun") ∧ r.length = 0 ∧ nameM d = true then some []
    else if argsM s = some (r.length + 1) then some (d :: r)
    else if s = "let" ∧ r.length = 1 ∧ rowsM d = true then some ((tupM d).map sndM ++ r)
    else none) := rfl
theorem rows_facts : ∀ r : Rows, (∀ x ∈ r.names, isName x) → r.datas.length = r.names.length ∧ r.datas.all rowM = true ∧ r.datas.map sndM = r.parts.map Part.data
  | .nil, _ => ⟨rfl, rfl, rfl⟩
  | .cons x a r, hn => by
    obtain ⟨k1, k2, k3⟩ := rows_facts r fun y hy => hn y (List.mem_cons_of_mem _ hy)
    refine ⟨congrArg (· + 1) k1, ?_, ?_⟩
    · show (rowM (.tuple [.str x, a.data]) && r.datas.all rowM) = true
      rw [k2, Bool.and_true]
      exact decide_eq_true (hn x List.mem_cons_self)
    · show a.data :: r.datas.map sndM = a.data :: r.parts.map Part.data
      rw [k3]
theorem w_num (k : K1) : k.word ≠ "number" ∧ k.word ≠ "name" ∧ k.word ≠ "fun" := by cases k <;> decide +kernel
theorem w_num2 (k : K2) : k.word ≠ "number" ∧ k.word ≠ "name" ∧ k.word ≠ "fun" := by cases k <;> decide +kernel
theorem w_when : ("when" : Str) ≠ "number" ∧ ("when" : Str) ≠ "name" ∧ ("when" : Str) ≠ "fun" := by decide +kernel
theorem w_let : ("let" : Str) ≠ "number" ∧ ("let" : Str) ≠ "name" ∧ ("let" : Str) ≠ "fun" := by decide +kernel
theorem w_name : ("name" : Str) ≠ "number" ∧ ("fun" : Str) ≠ "number" := by decide +kernel
theorem args_let : argsM "let" = none := by decide +kernel
theorem kidsM_big {s : Str} {d : PyData} {r : List PyData} (h : s ≠ "number" ∧ s ≠ "name" ∧ s ≠ "fun") (ha : argsM s = some (r.length + 1)) : kidsM (.tuple (.str s :: d :: r)) = some (d :: r) := by
  rw [kidsM_eq, if_neg (fun z => h.1 z.1), if_neg (fun z => z.1.elim h.2.1 h.2.2), if_pos ha]
theorem kidsM_data {p : Part} (h : p.shape) : kidsM p.data = some (p.kids.map Part.data) := by
  cases p with
  | num n =>
    show kidsM (.tuple [.str "number", .int n]) = _
    rw [kidsM_eq, if_pos ⟨rfl, rfl, decide_eq_true (p := n.natAbs < 10 ^ 60) h⟩]; rfl
  | name x =>
    show kidsM (.tuple [.str "name", .str x]) = _
    rw [kidsM_eq, if_neg (fun z => w_name.1 z.1), if_pos ⟨.inl rfl, rfl, decide_eq_true (p := isName x) h⟩]; rfl
  | fn x =>
    show kidsM (.tuple [.str "fun", .str x]) = _
    rw [kidsM_eq, if_neg (fun z => w_name.2 z.1), if_pos ⟨.inr rfl, rfl, decide_eq_true (p := isName x) h⟩]; rfl
  | one k a => exact kidsM_big (w_num k) (argsM_1 k)
  | two k a b => exact kidsM_big (w_num2 k) (argsM_2 k)
  | whn a b c => exact kidsM_big w_when argsM_3
  | letp r a =>
    obtain ⟨k1, k2, k3⟩ := rows_facts r h.2.2.1
    have hne : r.names.length ≠ 0 := fun e => h.2.1 (List.eq_nil_of_length_eq_zero e)
    have h4 := h.1
    have hrows : rowsM (.tuple r.datas) = true := by
      show (decide (1 ≤ r.datas.length) && (decide (r.datas.length ≤ 4) && r.datas.all rowM)) = true
      rw [k1, k2, decide_eq_true (by omega), decide_eq_true h4]; rfl
    show kidsM (.tuple [.str "let", .tuple r.datas, a.data]) = some ((r.parts ++ [a]).map Part.data)
    rw [kidsM_eq, if_neg (fun z => w_let.1 z.1), if_neg (fun z => z.1.elim w_let.2.1 w_let.2.2), if_neg (fun z => by rw [args_let] at z; cases z), if_pos ⟨rfl, rfl, hrows⟩, List.map_append]
    show some (r.datas.map sndM ++ [a.data]) = _
    rw [k3]; rfl
  | shut a => exact h.elim
/-! the pile of parts -/
def gq2 (q : Part × Nat) : PyData × Nat := (q.1.data, q.2)
theorem runB_decode : ∀ (f many : Nat) (st : List (PyData × Nat)), many ≤ 60 → runB f many st = true → ∃ qs : List (Part × Nat), qs.map gq2 = st ∧ (∀ q ∈ qs, q.1.shape ∧ q.1.deep + q.2 ≤ 13) ∧ many + dsz qs ≤ 60
  | f, many, [], hm, _ => ⟨[], rfl, fun q hq => (List.not_mem_nil hq).elim, hm⟩
  | 0, many, _ :: _, hm, h => by cases h
  | f + 1, many, (d, k) :: st, hm, h => by
    have h' : (match kidsM d with
      | none => false
      | some ks => if k > 12 ∨ many + 1 > 60 then false else runB f (many + 1) ((ks.map fun x => (x, k + 1)).reverse ++ st)) = true := h
    cases hk : kidsM d with
    | none => rw [hk] at h'; cases h'
    | some ks =>
      rw [hk] at h'
      dsimp only at h'
      by_cases hc : k > 12 ∨ many + 1 > 60
      · rw [if_pos hc] at h'; cases h'
      rw [if_neg hc] at h'
      have hk12 : k ≤ 12 := by omega
      have hm60 : many + 1 ≤ 60 := by omega
      obtain ⟨qs, e, hq, hs⟩ := runB_decode f (many + 1) _ hm60 h'
      obtain ⟨qs1, qs2, rfl, e1, e2⟩ := List.map_eq_append_iff.mp e
      have e3 : qs1.reverse.map gq2 = ks.map fun x => (x, k + 1) := by rw [List.map_reverse, e1, List.reverse_reverse]
      have e4 : ks = (qs1.reverse.map (·.1)).map Part.data := by
        have := congrArg (List.map Prod.fst) e3
        rw [List.map_map, List.map_map] at this
        rw [List.map_map]
        simpa [Function.comp_def, gq2] using this.symm
      have e5 : ∀ q ∈ qs1.reverse, q.2 = k + 1 := by
        intro q hq
        have := List.mem_map_of_mem (f := gq2) hq
        rw [e3] at this
        obtain ⟨x, _, hx⟩ := List.mem_map.mp this
        exact (congrArg Prod.snd hx).symm
      obtain ⟨p, hp1, hp2, hp3⟩ := kidsM_decode hk e4 fun p hp => by
        obtain ⟨q, hqm, rfl⟩ := List.mem_map.mp hp
        exact (hq q (List.mem_append.mpr (.inl (List.mem_reverse.mp hqm)))).1
      refine ⟨(p, k) :: qs2, by rw [List.map_cons, e2]; show (p.data, k) :: st = _; rw [hp1], fun q hqm => ?_, ?_⟩
      · rcases List.mem_cons.mp hqm with rfl | hqm
        · refine ⟨hp2, ?_⟩
          show p.deep + k ≤ 13
          rw [p.mxd_kids, hp3]
          have : mxd (qs1.reverse.map (·.1)) ≤ 12 - k := by
            refine mxd_le fun x hx => ?_
            obtain ⟨q, hqm, rfl⟩ := List.mem_map.mp hx
            have h1 := (hq q (List.mem_append.mpr (.inl (List.mem_reverse.mp hqm)))).2
            have h2 := e5 q hqm
            omega
          omega
        · exact hq q (List.mem_append.mpr (.inr hqm))
      · show many + (p.size + dsz qs2) ≤ 60
        rw [dsz_app] at hs
        have : p.size = 1 + dsz qs1 := by
          rw [p.sz_kids, hp3, List.map_reverse, sz_rev]
          congr 1
          clear hs hq e e1 e3 e4 e5 hp3
          induction qs1 with
          | nil => rfl
          | cons q qs ih => obtain ⟨a, b⟩ := q; show a.size + sz _ = a.size + dsz qs; rw [ih]
        omega
theorem runB_true : ∀ (f many : Nat) (qs : List (Part × Nat)), f + many = 61 → (∀ q ∈ qs, q.1.shape ∧ q.1.deep + q.2 ≤ 13) → many + dsz qs ≤ 60 → runB f many (qs.map gq2) = true
  | f, many, [], _, _, _ => by cases f <;> rfl
  | 0, many, q :: qs, h, _, hs => by omega
  | f + 1, many, (p, k) :: qs, h, hq, hs => by
    have hs' : many + (p.size + dsz qs) ≤ 60 := hs
    have hp := hq (p, k) List.mem_cons_self
    have hd : p.deep + k ≤ 13 := hp.2
    have hmx := p.mxd_kids
    have hsz := p.sz_kids
    show (match kidsM p.data with
      | none => false
      | some ks => if k > 12 ∨ many + 1 > 60 then false else runB f (many + 1) ((ks.map fun x => (x, k + 1)).reverse ++ qs.map gq2)) = true
    rw [kidsM_data hp.1]
    dsimp only
    rw [if_neg (by omega)]
    have e : ((p.kids.map Part.data).map fun x => (x, k + 1)).reverse ++ qs.map gq2 = ((p.kids.map fun x => (x, k + 1)).reverse ++ qs).map gq2 := by
      rw [List.map_append, List.map_reverse, List.map_map, List.map_map]; rfl
    rw [e]
    refine runB_true f (many + 1) _ (by omega) (fun q hqm => ?_) ?_
    · rcases List.mem_append.mp hqm with hqm | hqm
      · obtain ⟨x, hx, rfl⟩ := List.mem_map.mp (List.mem_reverse.mp hqm)
        have := mxd_mem hx
        exact ⟨hp.1.kids x hx, by show x.deep + (k + 1) ≤ 13; omega⟩
      · exact hq q (List.mem_cons_of_mem _ hqm)
    · have e2 : dsz ((p.kids.map fun x => (x, k + 1)).reverse) = sz p.kids := by rw [← List.map_reverse, dsz_map, sz_rev]
      rw [dsz_app, e2]
      omega
theorem bodyM_decode {d : PyData} (h : bodyM d = true) : ∃ p : Part, d = p.data ∧ p.bd := by
  obtain ⟨qs, e, hq, hs⟩ := runB_decode 61 0 [(d, 1)] (by omega) h
  obtain ⟨q, qs', rfl, e1, e2⟩ := List.map_eq_cons_iff.mp e
  obtain ⟨p, k⟩ := q
  have h1 : p.data = d := congrArg Prod.fst e1
  have h2 : k = 1 := congrArg Prod.snd e1
  have h3 := hq (p, k) List.mem_cons_self
  have h4 : p.deep + k ≤ 13 := h3.2
  have h5 : 0 + (p.size + dsz qs') ≤ 60 := hs
  exact ⟨p, h1.symm, h3.1, by omega, by omega⟩
theorem bodyM_true {p : Part} (h : p.bd) : bodyM p.data = true := runB_true 61 0 [(p, 1)] rfl (fun q hq => by rw [List.mem_singleton.mp hq]; exact ⟨h.shape, by show p.deep + 1 ≤ 13; have := h.deep; omega⟩) (by show 0 + (p.size + 0) ≤ 60; have := h.size; omega)
structure Fn1.bd (f : Fn1) : Prop where
  nm : isName f.name
  few : f.things.length ≤ 4
  th : ∀ x ∈ f.things, isName x
  body : f.body.bd
structure Prog.bd (P : Prog) : Prop where
  few : P.fs.length ≤ 8
  fs : ∀ f ∈ P.fs, f.bd
  asked : P.asked.bd
theorem names_decode : ∀ {ds : List PyData}, ds.all nameM = true → ∃ ss : List Str, ds = ss.map PyData.str ∧ ∀ x ∈ ss, isName x
  | [], _ => ⟨[], rfl, fun x hx => (List.not_mem_nil hx).elim⟩
  | d :: ds, h => by
    rw [List.all_cons, Bool.and_eq_true] at h
    obtain ⟨s, rfl, hs⟩ := nameM_inv h.1
    obtain ⟨ss, rfl, hss⟩ := names_decode h.2
    exact ⟨s :: ss, rfl, fun x hx => by rcases List.mem_cons.mp hx with rfl | hx; exact hs; exact hss x hx⟩
theorem functionM_decode {d : PyData} (h : functionM d = true) : ∃ f : Fn1, d = f.data ∧ f.bd := by
  unfold functionM at h
  split at h
  · rename_i n ths b
    simp only [Bool.and_eq_true, decide_eq_true_iff] at h
    obtain ⟨h1, h2, h3, h4⟩ := h
    obtain ⟨s, rfl, hs⟩ := nameM_inv h1
    obtain ⟨ss, rfl, hss⟩ := names_decode h3
    obtain ⟨p, rfl, hp⟩ := bodyM_decode h4
    exact ⟨⟨s, ss, p⟩, rfl, hs, by rw [List.length_map] at h2; exact h2, hss, hp⟩
  · cases h
theorem functions_decode : ∀ {ds : List PyData}, ds.all functionM = true → ∃ fs : List Fn1, ds = fs.map Fn1.data ∧ ∀ f ∈ fs, f.bd
  | [], _ => ⟨[], rfl, fun x hx => (List.not_mem_nil hx).elim⟩
  | d :: ds, h => by
    rw [List.all_cons, Bool.and_eq_true] at h
    obtain ⟨s, rfl, hs⟩ := functionM_decode h.1
    obtain ⟨ss, rfl, hss⟩ := functions_decode h.2
    exact ⟨s :: ss, rfl, fun x hx => by rcases List.mem_cons.mp hx with rfl | hx; exact hs; exact hss x hx⟩
theorem builtM_decode {d : PyData} (h : builtM d = true) : ∃ P : Prog, d = P.data ∧ P.bd := by
  unfold builtM at h
  split at h
  · rename_i fs b
    simp only [Bool.and_eq_true, decide_eq_true_iff] at h
    obtain ⟨h1, h2, h3⟩ := h
    obtain ⟨ss, rfl, hss⟩ := functions_decode h2
    obtain ⟨p, rfl, hp⟩ := bodyM_decode h3
    exact ⟨⟨ss, p⟩, rfl, by rw [List.length_map] at h1; exact h1, hss, hp⟩
  · cases h
theorem names_true {ss : List Str} (h : ∀ x ∈ ss, isName x) : (ss.map PyData.str).all nameM = true := by
  rw [List.all_eq_true]
  intro d hd
  obtain ⟨s, hs, rfl⟩ := List.mem_map.mp hd
  exact decide_eq_true (h s hs)
theorem functionM_true {f : Fn1} (h : f.bd) : functionM f.data = true := by
  show (nameM (.str f.name) && (decide ((f.things.map PyData.str).length ≤ 4) && ((f.things.map PyData.str).all nameM && bodyM f.body.data))) = true
  rw [names_true h.th, bodyM_true h.body, List.length_map, decide_eq_true h.few]
  show (decide (isName f.name) && (true && (true && true))) = true
  rw [decide_eq_true h.nm]; rfl
theorem builtM_true {P : Prog} (h : P.bd) : builtM P.data = true := by
  show (decide ((P.fs.map Fn1.data).length ≤ 8) && ((P.fs.map Fn1.data).all functionM && bodyM P.asked.data)) = true
  rw [bodyM_true h.asked, List.length_map, decide_eq_true h.few, Bool.and_true, Bool.true_and, List.all_eq_true]
  intro d hd
  obtain ⟨s, hs, rfl⟩ := List.mem_map.mp hd
  exact functionM_true (h.fs s hs)
theorem Prog.fine.bd {P : Prog} (h : P.fine) : P.bd := ⟨h.few, fun f hf => ⟨(h.fs f hf).nm, (h.fs f hf).few, (h.fs f hf).th, (h.fs f hf).body.bd⟩, h.asked.bd⟩

/-! ### looks that raise -/
mutual
def tpB : PyData → Bool
  | .none => true
  | .bool _ => true
  | .int _ => true
  | .str _ => true
  | .tuple ds => tpsB ds
  | .list _ => false
  | .dict _ => false
def tpsB : List PyData → Bool
  | [] => true
  | d :: ds => tpB d && tpsB ds
end
mutual
theorem Gq.tp {H : Hp} : ∀ {d : PyData} {v : V}, Gq H v d → tpB d = true → Tp H v d
  | .none, _, h, _ => by cases h; exact .non
  | .bool b, _, h, _ => by cases h; exact .bl b
  | .int i, _, h, _ => by cases h; exact .int i
  | .str x, _, h, _ => by cases h; exact .str x
  | .tuple ds, _, h, e => by
    cases h with
    | tup ea r => exact .tup ea (Gqs.tp r e)
  | .list ds, _, _, e => by cases e
  | .dict ds, _, _, e => by cases e
theorem Gqs.tp {H : Hp} : ∀ {ds : List PyData} {vs : List V}, Gqs H vs ds → tpsB ds = true → Tps H vs ds
  | [], _, h, _ => by cases h; exact .nil
  | d :: ds, _, h, e => by
    have e' : (tpB d && tpsB ds) = true := e
    rw [Bool.and_eq_true] at e'
    cases h with
    | cons a b => exact .cons (Gq.tp a e'.1) (Gqs.tp b e'.2)
end
mutual
theorem Part.tpB : ∀ p : Part, tpB p.data = true
  | .num n => rfl
  | .name x => rfl
  | .fn f => rfl
  | .one k a => by show (true && (Lz.tpB a.data && true)) = true; rw [Part.tpB a]; rfl
  | .two k a b => by show (true && (Lz.tpB a.data && (Lz.tpB b.data && true))) = true; rw [Part.tpB a, Part.tpB b]; rfl
  | .whn a b c => by show (true && (Lz.tpB a.data && (Lz.tpB b.data && (Lz.tpB c.data && true)))) = true; rw [Part.tpB a, Part.tpB b, Part.tpB c]; rfl
  | .letp r a => by show (true && (tpsB r.datas && (Lz.tpB a.data && true))) = true; rw [Rows.tpB r, Part.tpB a]; rfl
  | .shut a => by show (true && (Lz.tpB a.data && true)) = true; rw [Part.tpB a]; rfl
theorem Rows.tpB : ∀ r : Rows, tpsB r.datas = true
  | .nil => rfl
  | .cons x a r => by show ((true && (Lz.tpB a.data && true)) && tpsB r.datas) = true; rw [Part.tpB a, Rows.tpB r]; rfl
end
theorem tpsB_all : ∀ {ds : List PyData}, (∀ d ∈ ds, Lz.tpB d = true) → tpsB ds = true
  | [], _ => rfl
  | d :: ds, h => by show (Lz.tpB d && tpsB ds) = true; rw [h d List.mem_cons_self, tpsB_all fun x hx => h x (List.mem_cons_of_mem _ hx)]; rfl
theorem Fn1.tpB (f : Fn1) : Lz.tpB f.data = true := by
  show (true && (tpsB (f.things.map PyData.str) && (Lz.tpB f.body.data && true))) = true
  rw [Part.tpB, tpsB_all fun d hd => by obtain ⟨s, _, rfl⟩ := List.mem_map.mp hd; rfl]; rfl
theorem Prog.tpB (P : Prog) : Lz.tpB P.data = true := by
  show (tpsB (P.fs.map Fn1.data) && (Lz.tpB P.asked.data && true)) = true
  rw [Part.tpB, tpsB_all fun d hd => by obtain ⟨s, _, rfl⟩ := List.mem_map.mp hd; exact s.tpB]; rfl
/-! the model -/
def dupG : List Str → List Str → Option Str
  | _, [] => none
  | seen, x :: r => if x ∈ seen then some x else dupG (seen ++ [x]) r
theorem dupG_nodup : ∀ {seen r : List Str}, (seen ++ r).Nodup → dupG seen r = none
  | _, [], _ => rfl
  | seen, x :: r, h => by
    show (if x ∈ seen then some x else dupG (seen ++ [x]) r) = none
    rw [if_neg fun hx => (List.nodup_append.mp h).2.2 x hx x List.mem_cons_self rfl]
    exact dupG_nodup (by rw [List.append_assoc]; exact h)
theorem dup_at {ns : List Str} {i : Nat} (hi : i < ns.length) : dupG (ns.take i) (ns.drop i) = if ns[i] ∈ ns.take i then some ns[i] else dupG (ns.take (i + 1)) (ns.drop (i + 1)) := by
  rw [List.drop_eq_getElem_cons hi, List.take_succ_eq_append_getElem hi]; rfl
mutual
def Part.odd (fs : List Str) : List Str → Part → Option Str
  | _, .num _ => none
  | sc, .name x => if x ∈ sc then none else some x
  | _, .fn f => if f ∈ fs then none else some f
  | sc, .one _ a => a.odd fs sc
  | sc, .two _ a b => (a.odd fs sc).or (b.odd fs sc)
  | sc, .whn a b c => (a.odd fs sc).or ((b.odd fs sc).or (c.odd fs sc))
  | sc, .letp r a => (r.odd fs (sc ++ r.names)).or (a.odd fs (sc ++ r.names))
  | _, .shut _ => none
def Rows.odd (fs : List Str) : List Str → Rows → Option Str
  | _, .nil => none
  | sc, .cons _ a r => (a.odd fs sc).or (r.odd fs sc)
end
def oddL (fs sc : List Str) : List Part → Option Str
  | [] => none
  | p :: ps => (p.odd fs sc).or (oddL fs sc ps)
theorem Rows.odd_parts {fs sc : List Str} : ∀ r : Rows, r.odd fs sc = oddL fs sc r.parts
  | .nil => rfl
  | .cons _ a r => by show (a.odd fs sc).or (r.odd fs sc) = (a.odd fs sc).or (oddL fs sc r.parts); rw [Rows.odd_parts r]
theorem Part.odd_plain {fs sc : List Str} {p : Part} (hw : plainWord p.word) (hs : p.word ≠ "shut") : p.odd fs sc = oddL fs sc p.kids := by
  cases p with
  | one k a => show _ = (a.odd fs sc).or none; rw [Option.or_none]; rfl
  | two k a b => show _ = (a.odd fs sc).or ((b.odd fs sc).or none); rw [Option.or_none]; rfl
  | whn a b c => show _ = (a.odd fs sc).or ((b.odd fs sc).or ((c.odd fs sc).or none)); rw [Option.or_none]; rfl
  | shut a => exact absurd rfl hs
  | num n => exact absurd (show ("number" : Str) ∈ [("number" : Str), "fun", "let", "name"] from by simp) hw
  | name n => exact absurd (show ("name" : Str) ∈ [("number" : Str), "fun", "let", "name"] from by simp) hw
  | fn n => exact absurd (show ("fun" : Str) ∈ [("number" : Str), "fun", "let", "name"] from by simp) hw
  | letp r a => exact absurd (show ("let" : Str) ∈ [("number" : Str), "fun", "let", "name"] from by simp) hw
mutual
theorem Part.ok.odd {fs : List Str} : ∀ {p : Part} {sc : List Str}, p.ok fs sc → p.odd fs sc = none
  | .num n, _, _ => rfl
  | .name x, _, h => if_pos h.1
  | .fn x, _, h => if_pos h.1
  | .one _ a, _, h => Part.ok.odd (p := a) h
  | .two _ a b, sc, h => by show (a.odd fs sc).or (b.odd fs sc) = none; rw [Part.ok.odd (p := a) h.1, Part.ok.odd (p := b) h.2]; rfl
  | .whn a b c, sc, h => by show (a.odd fs sc).or ((b.odd fs sc).or (c.odd fs sc)) = none; rw [Part.ok.odd (p := a) h.1, Part.ok.odd (p := b) h.2.1, Part.ok.odd (p := c) h.2.2]; rfl
  | .letp r a, sc, h => by show (r.odd fs (sc ++ r.names)).or (a.odd fs (sc ++ r.names)) = none; rw [Rows.ok.odd (r := r) h.2.2.2.1, Part.ok.odd (p := a) h.2.2.2.2]; rfl
  | .shut _, _, h => h.elim
theorem Rows.ok.odd {fs : List Str} : ∀ {r : Rows} {sc : List Str}, r.ok fs sc → r.odd fs sc = none
  | .nil, _, _ => rfl
  | .cons _ a r, sc, h => by show (a.odd fs sc).or (r.odd fs sc) = none; rw [Part.ok.odd (p := a) h.1, Rows.ok.odd (r := r) h.2]; rfl
end
def lookF (fs : List Str) (q : List Str × Part) : Option (Str × Str) := match dupG [] (q.1 ++ q.2.rowNames) with
  | some x => some ("Hidden", x)
  | none => (q.2.odd fs q.1).map fun x => ("Stranger", x)
def lookL (fs : List Str) : List (List Str × Part) → Option (Str × Str)
  | [] => none
  | q :: qs => (lookF fs q).or (lookL fs qs)
def Prog.items (P : Prog) : List (List Str × Part) := P.fs.map (fun f => (f.things, f.body)) ++ [([], P.asked)]
def lookM (P : Prog) : Option (Str × Str) := match dupG [] P.names with
  | some x => some ("Twice", x)
  | none => lookL P.names P.items
theorem lookL_none {fs : List Str} : ∀ {qs : List (List Str × Part)}, (∀ q ∈ qs, lookF fs q = none) → lookL fs qs = none
  | [], _ => rfl
  | q :: qs, h => by show (lookF fs q).or (lookL fs qs) = none; rw [h q List.mem_cons_self, lookL_none fun x hx => h x (List.mem_cons_of_mem _ hx)]; rfl
theorem Part.fine.look {fs sc : List Str} {p : Part} (h : p.fine fs sc) (hn : sc.Nodup) : lookF fs (sc, p) = none := by
  unfold lookF
  have : (sc ++ p.rowNames).Nodup := List.nodup_append.mpr ⟨hn, h.nd, fun y hy z hz e => (h.un z hz).2 (e ▸ hy)⟩
  rw [dupG_nodup (by rw [List.nil_append]; exact this)]
  show (p.odd fs sc).map _ = none
  rw [Part.ok.odd h.ok]; rfl
theorem Prog.fine.look {P : Prog} (h : P.fine) : lookM P = none := by
  unfold lookM
  rw [dupG_nodup (by rw [List.nil_append]; exact h.nd)]
  refine lookL_none fun q hq => ?_
  rcases List.mem_append.mp hq with hq | hq
  · obtain ⟨f, hf, rfl⟩ := List.mem_map.mp hq
    exact (h.fs f hf).body.look (h.fs f hf).nd
  · rw [List.mem_singleton.mp hq]
    exact h.asked.look List.nodup_nil
/-! the walks -/
/-- an error of a class with its name -/
def Raised (K : PySem.W.Frag) (c x : Str) (E : XK) (H : Hp) : Prop := ∀ (dd : Addr) (H' : Hp), H dd = none → H' dd = some (.xd [("name", .str x)]) → Same H H' → E (.ref (He.ga K c)) (some dd) H'
theorem Raised.mono {K : PySem.W.Frag} {c x : Str} {E : XK} {H H1 : Hp} (h : Raised K c x E H) (s : Same H H1) : Raised K c x E H1 := fun dd H' n e s' => h dd H' (s.free n) e (s.trans s')
theorem g_raiseN {K : PySem.W.Frag} {c x : Str} {E : XK} {H : Hp} (q : Raised K c x E H) : RaiseR (He.ga K c) (spXInit K (He.ga K c) "name") E [.str x] H := g_raise1 fun d H' n e s => q d H' n e s
theorem pure_initTwice {K : PySem.W.Frag} {w : World} (e : Errs K) : PureOk 2 (spXInit K (He.ga K "Twice") "name") (t_Twice___init__ K w) 2 := by
  refine ⟨fun vs H Q E ⟨_, _, e, _⟩ => by rw [e]; rfl, ?_⟩
  rintro vs H Q E ⟨a, v, rfl, ha, q⟩
  exact g_ost1 e.o_Twice e.s.ti.nm ⟨v, rfl, .ref a, rfl, rfl, ha, q⟩ (fun h ⟨v, e, q⟩ => ⟨v, e, h _ _ q⟩) (fun h ⟨v, e, q⟩ => ⟨v, e, h _ _ q⟩)
theorem pure_initHidden {K : PySem.W.Frag} {w : World} (e : Errs K) : PureOk 2 (spXInit K (He.ga K "Hidden") "name") (t_Hidden___init__ K w) 2 := by
  refine ⟨fun vs H Q E ⟨_, _, e, _⟩ => by rw [e]; rfl, ?_⟩
  rintro vs H Q E ⟨a, v, rfl, ha, q⟩
  exact g_ost1 e.o_Hidden e.s.hi.nm ⟨v, rfl, .ref a, rfl, rfl, ha, q⟩ (fun h ⟨v, e, q⟩ => ⟨v, e, h _ _ q⟩) (fun h ⟨v, e, q⟩ => ⟨v, e, h _ _ q⟩)
theorem pure_initStranger {K : PySem.W.Frag} {w : World} (e : Errs K) : PureOk 2 (spXInit K (He.ga K "Stranger") "name") (t_Stranger___init__ K w) 2 := by
  refine ⟨fun vs H Q E ⟨_, _, e, _⟩ => by rw [e]; rfl, ?_⟩
  rintro vs H Q E ⟨a, v, rfl, ha, q⟩
  exact g_ost1 e.o_Stranger e.s.si.nm ⟨v, rfl, .ref a, rfl, rfl, ha, q⟩ (fun h ⟨v, e, q⟩ => ⟨v, e, h _ _ q⟩) (fun h ⟨v, e, q⟩ => ⟨v, e, h _ _ q⟩)
def spUnlikeX (K : PySem.W.Frag) : Sp := fun vs H Q E => ∃ (l : Addr) (ns : List Str), vs = [.ref l] ∧ H l = some (.lst (ns.map V.str)) ∧ ns.length ≤ 1000 ∧ (dupG [] ns = none → ∀ H', Same H H' → Q .non H') ∧ ∀ x, dupG [] ns = some x → Raised K "Hidden" x E H
theorem pure_unlikeX {K : PySem.W.Frag} {w : World} : PureOkX 1 (spUnlikeX K) (tx_look_unlike K w (spXInit K (He.ga K "Hidden") "name")) 2 := by
  refine ⟨fun vs H Q E ⟨_, _, e, _⟩ => by rw [e]; rfl, ?_⟩
  rintro vs H Q E ⟨l, ns, rfl, el, hl, qn, qe⟩
  show tx_look_unlike K w _ E _ [some (.ref l), none] H
  unfold tx_look_unlike
  walk_at "gg"
  have hj : ((ns.map V.str).length : Int).toNat = ns.length := by rw [List.length_map]; omega
  refine g_isrng (by omega) (by rw [List.length_map]; omega) ?_
  rw [hj]
  refine for_any ns.length (fun i σ H' => ∃ x1, σ = [some (.ref l), x1] ∧ Same H H' ∧ dupG (ns.take i) (ns.drop i) = dupG [] ns) ⟨_, rfl, .refl _, rfl⟩ (fun i σ H' hi _ => hi) (fun σ H' _ => Nat.le_refl _) ?_ ?_
  · rintro i x σ _ H1 hi ⟨x1, rfl, s1, hd⟩ ⟨rfl, rfl⟩
    have el1 := s1 _ _ el
    have hg : ns[i]? = some ns[i] := List.getElem?_eq_getElem hi
    rw [dup_at hi] at hd
    walk_at "gg"
    rw [Int.zero_add]
    refine g_ixL (.of el1) (v := .str ns[i]) (atI_of (by omega) (by rw [Int.toNat_natCast, List.getElem?_map, hg]; rfl)) ?_
    walk_at "gg"
    refine g_slL (.of el1) ?_
    rw [cut_to]
    walk_at "gg"
    rename_i l2 H2 n2 e2 s2
    refine g_inL (ss := ns.take i) (.of e2) ?_
    walk_at "gg"
    by_cases hm : ns[i] ∈ ns.take i
    · rw [if_pos hm] at hd
      refine g_T (decide_eq_true hm) ?_
      walk_at "gg"
      refine g_ixL (.of (s2 _ _ el1)) (v := .str ns[i]) (atI_of (by omega) (by rw [Int.toNat_natCast, List.getElem?_map, hg]; rfl)) ?_
      walk_at "gg"
      exact g_raiseN ((qe _ hd.symm).mono (s1.trans s2))
    · rw [if_neg hm] at hd
      refine g_F (decide_eq_false hm) ?_
      walk_at "gg"
      exact ⟨_, rfl, s1.trans s2, hd⟩
  · rintro σ H1 ⟨x1, rfl, s1, hd⟩
    rw [List.drop_length] at hd
    exact qn hd.symm H1 s1
def spNamedX (K : PySem.W.Frag) (m : Nat) : Sp := fun vs H Q E => ∃ (v : V) (kl fl : Addr) (p : Part) (fs sc : List Str), vs = [v, .ref kl, .ref fl] ∧ Tp H v p.data ∧ p.shape ∧ p.deep ≤ m ∧ p.size ≤ 60 ∧ H kl = some (.lst (sc.map V.str)) ∧ H fl = some (.lst (fs.map V.str)) ∧ sc.length + 4 * m ≤ 100 ∧
  (p.odd fs sc = none → ∀ H', Same H H' → Q .non H') ∧ ∀ x, p.odd fs sc = some x → Raised K "Stranger" x E H
theorem oddL_at {fs sc : List Str} {ps : List Part} {i : Nat} {p : Part} (h : ps[i]? = some p) : oddL fs sc (ps.drop i) = (p.odd fs sc).or (oddL fs sc (ps.drop (i + 1))) := by
  obtain ⟨h1, h2⟩ := List.getElem?_eq_some_iff.mp h
  rw [List.drop_eq_getElem_cons h1, h2]; rfl
theorem pure_namedX {K : PySem.W.Frag} {w : World} (T : KTab K w (He.ga K "PARTS") PARTSkvs) {m : Nat} : PureOkX 3 (spNamedX K (m + 1)) (tx_look_named K w (spXInit K (He.ga K "Stranger") "name") (spNamedX K m)) 6 := by
  refine ⟨fun vs H Q E ⟨_, _, _, _, _, _, e, _⟩ => by rw [e]; rfl, ?_⟩
  rintro vs H Q E ⟨v, kl, fl, p, fs, sc, rfl, t, hok, hdp, hz, ek, ef, hlen, qn, qe⟩
  show tx_look_named K w _ _ E _ [some v, some (.ref kl), some (.ref fl), none, none, none] H
  unfold tx_look_named
  have hdk := p.mxd_kids
  have hsk := p.sz_kids
  rcases word_cases p with ⟨n, rfl⟩ | ⟨x, rfl⟩ | ⟨f, rfl⟩ | ⟨r, b, rfl⟩ | ⟨b, rfl⟩ | ⟨hw, hs⟩
  · obtain ⟨a, u1, u2, rfl, ea, t1, t2⟩ := t.two
    rw [t1.str_inv] at ea
    walk_at "gg"
    exact qn rfl H (.refl _)
  · obtain ⟨a, u1, u2, rfl, ea, t1, t2⟩ := t.two
    rw [t1.str_inv, t2.str_inv] at ea
    walk_at "gg"
    refine g_notInL (ss := sc) (.of ek) ?_
    walk_at "gg"
    by_cases hx : x ∈ sc
    · refine g_F (by rw [decide_eq_true hx]; rfl) ?_
      walk_at "gg"
      exact qn (if_pos hx) H (.refl _)
    · refine g_T (by rw [decide_eq_false hx]; rfl) ?_
      walk_at "gg"
      exact g_raiseN (qe _ (if_neg hx))
  · obtain ⟨a, u1, u2, rfl, ea, t1, t2⟩ := t.two
    rw [t1.str_inv, t2.str_inv] at ea
    walk_at "gg"
    refine g_notInL (ss := fs) (.of ef) ?_
    walk_at "gg"
    by_cases hx : f ∈ fs
    · refine g_F (by rw [decide_eq_true hx]; rfl) ?_
      walk_at "gg"
      exact qn (if_pos hx) H (.refl _)
    · refine g_T (by rw [decide_eq_false hx]; rfl) ?_
      walk_at "gg"
      exact g_raiseN (qe _ (if_neg hx))
  · obtain ⟨a, u1, u2, u3, rfl, ea, t1, t2, t3⟩ := t.three
    rw [t1.str_inv] at ea
    obtain ⟨ra, rs, rfl, er, tr⟩ := t2.tup_inv
    have hrl : rs.length = r.names.length := by rw [tr.length, r.len, Rows.list_names, Rows.list_parts, List.length_map, List.length_map]
    have hrp : rs.length = r.parts.length := by rw [tr.length, r.len]
    have hfew := hok.1
    walk_at "gg"
    refine g_seqT ?_
    walk_at "gg"
    refine lc_mapT er (by omega) (fun i y H' => ∃ nm, r.names[i]? = some nm ∧ y = .str nm) (fun i y H H' k h => h) ?_ ?_
    · intro j y H' Nx hy s hN
      obtain ⟨d, hd, ty⟩ := tr.get hy
      obtain ⟨nm, p2, hnm, hp2, rfl⟩ := Rows.get hd
      obtain ⟨a2, u1, u2, rfl, ea2, tn, tp⟩ := ty.two
      rw [tn.str_inv] at ea2
      walk_at "gg"
      refine ⟨rfl, ?_⟩
      walk_at "gg"
      exact hN _ _ (.refl _) ⟨nm, hnm, rfl⟩
    · intro D ys H2 nD eD hys hF s2
      have hys2 : ys = r.names.map V.str := by
        refine List.ext_getElem? fun i => ?_
        cases e : ys[i]? with
        | none =>
          rw [List.getElem?_eq_none_iff] at e
          rw [List.getElem?_eq_none (by rw [List.length_map]; omega)]
        | some y =>
          obtain ⟨nm, hq, rfl⟩ := hF i y e
          rw [List.getElem?_map, hq]
          rfl
      subst hys2
      refine g_addL (s2 _ _ ek) eD (by simp only [List.length_map]; show _ ≤ 16777216; omega) ?_
      walk_at "gg"
      rename_i il H3 n3 e3 s3
      rw [← List.map_append] at e3
      have s03 := s2.trans s3
      have ea3 := s03 _ _ ea
      have er3 := s03 _ _ er
      have tr3 := tr.mono (Same.tk s03)
      have ef3 := s03 _ _ ef
      have t33 := t3.mono (Same.tk s03)
      have hokr : r.shape := hok.2.2.2.1
      have hokb : b.shape := hok.2.2.2.2
      have hli : (sc ++ r.names).length + 4 * m ≤ 100 := by rw [List.length_append]; omega
      have hpk : ∀ p2 ∈ r.parts, p2 ∈ (Part.letp r b).kids := fun p2 h => List.mem_append.mpr (.inl h)
      have hbk : b ∈ (Part.letp r b).kids := List.mem_append.mpr (.inr (by simp))
      have hodd : (Part.letp r b).odd fs sc = (oddL fs (sc ++ r.names) r.parts).or (b.odd fs (sc ++ r.names)) := by rw [← Rows.odd_parts]; rfl
      rw [hodd] at qn qe
      clear ea er tr ef t3 s2 s3 eD nD t t2 hodd
      walk_at "gg"
      refine g_seqT ?_
      walk_at "gg"
      refine for_T (xs := rs) (fun i σ H' => ∃ x4 x5, σ = [some (.ref a), some (.ref kl), some (.ref fl), some (.ref il), x4, x5] ∧ Same H3 H' ∧ (oddL fs (sc ++ r.names) (r.parts.drop i)).or (b.odd fs (sc ++ r.names)) = (oddL fs (sc ++ r.names) r.parts).or (b.odd fs (sc ++ r.names)))
        (fun i σ H' ⟨_, _, _, s, _⟩ => s _ _ er3) ⟨_, _, rfl, .refl _, rfl⟩ ?_ ?_
      · rintro i x σ H4 hx ⟨x4, x5, rfl, s4, ho⟩
        obtain ⟨d, hd, tx⟩ := tr3.get hx
        obtain ⟨nm, p2, hnm, hp2, rfl⟩ := Rows.get hd
        obtain ⟨a2, u1, u2, rfl, ea2, tn, tp⟩ := tx.two
        have hm2 := List.mem_of_getElem? hp2
        have := mxd_mem (hpk p2 hm2)
        have := sz_mem (hpk p2 hm2)
        rw [oddL_at hp2] at ho
        walk_at "gg"
        refine ⟨u2, il, fl, p2, fs, sc ++ r.names, rfl, tp.mono (Same.tk s4), Rows.parts_shape hokr p2 hm2, by omega, by omega, s4 _ _ e3, s4 _ _ ef3, hli, fun hno H5 s5 => ?_, fun z hz => ?_⟩
        · rw [hno, Option.none_or] at ho
          exact ⟨_, _, rfl, s4.trans s5, ho⟩
        · rw [hz] at ho
          exact (qe z (by rw [← ho]; rfl)).mono (s03.trans s4)
      · rintro σ H4 ⟨x4, x5, rfl, s4, ho⟩
        rw [hrp, List.drop_length] at ho
        have ho' : b.odd fs (sc ++ r.names) = (oddL fs (sc ++ r.names) r.parts).or (b.odd fs (sc ++ r.names)) := ho
        rw [← ho'] at qn qe
        have ea4 := s4 _ _ ea3
        have := mxd_mem hbk
        have := sz_mem hbk
        walk_at "gg"
        refine ⟨u3, il, fl, b, fs, sc ++ r.names, rfl, t33.mono (Same.tk s4), hokb, by omega, by omega, s4 _ _ e3, s4 _ _ ef3, hli, fun hno H5 s5 => ?_, fun z hz => (qe z hz).mono (s03.trans s4)⟩
        exact qn hno H5 (s03.trans (s4.trans s5))
  · exact hok.elim
  · obtain ⟨a, xs, rfl, ea, tx⟩ := t.part
    rw [Part.args_subs hw, subs_kids hw hs] at tx
    rw [Part.odd_plain hw hs] at qn qe
    have hxl : xs.length = p.kids.length := by rw [tx.length, List.length_map]
    have hkl := sz_len p.kids
    walk_at "gg"
    refine g_F (decide_eq_false (not_name hw)) ?_
    walk_at "gg"
    refine g_F (decide_eq_false fun e => hw (by rw [e]; simp)) ?_
    walk_at "gg"
    refine g_F (decide_eq_false fun e => hw (by rw [e]; simp)) ?_
    walk_at "gg"
    refine g_inK T (r := true) (PARTS_in hw hs) ?_
    walk_at "gg"
    refine g_seqT ?_
    walk_at "gg"
    refine g_slT (.of ea) (not_whole (by simp)) fun p2 H2 n2 e2 s2 => ?_
    rw [cut_tail] at e2
    refine g_isT (.of e2) ?_
    refine for_T (xs := xs) (fun i σ H' => ∃ x5, σ = [some (.ref a), some (.ref kl), some (.ref fl), none, none, x5] ∧ Same H2 H' ∧ oddL fs sc (p.kids.drop i) = oddL fs sc p.kids) (fun i σ H' ⟨_, _, s, _⟩ => s _ _ e2) ⟨_, rfl, .refl _, rfl⟩ ?_ ?_
    · rintro i x σ H3 hx ⟨x5, rfl, s3, ho⟩
      obtain ⟨d, hd, tx'⟩ := tx.get hx
      rw [List.getElem?_map] at hd
      obtain ⟨p2, hp2, rfl⟩ := Option.map_eq_some_iff.mp hd
      have hm2 := List.mem_of_getElem? hp2
      have := mxd_mem hm2
      have := sz_mem hm2
      have s23 := s2.trans s3
      rw [oddL_at hp2] at ho
      walk_at "gg"
      refine ⟨x, kl, fl, p2, fs, sc, rfl, tx'.mono (Same.tk s23), hok.kids p2 hm2, by omega, by omega, s23 _ _ ek, s23 _ _ ef, by omega, fun hno H4 s4 => ?_, fun z hz => ?_⟩
      · rw [hno, Option.none_or] at ho
        exact ⟨_, rfl, s3.trans s4, ho⟩
      · rw [hz] at ho
        exact (qe z (by rw [← ho]; rfl)).mono s23
    · rintro σ H3 ⟨x5, rfl, s3, ho⟩
      rw [hxl, List.drop_length] at ho
      exact qn ho.symm H3 (s2.trans s3)
theorem lookL_at {fs : List Str} {qs : List (List Str × Part)} {i : Nat} {q : List Str × Part} (h : qs[i]? = some q) : lookL fs (qs.drop i) = (lookF fs q).or (lookL fs (qs.drop (i + 1))) := by
  obtain ⟨h1, h2⟩ := List.getElem?_eq_some_iff.mp h
  rw [List.drop_eq_getElem_cons h1, h2]; rfl
def spLookedX (K : PySem.W.Frag) : Sp := fun vs H Q E => ∃ (v : V) (d : PyData), vs = [v] ∧ Gq H v d ∧ (builtM d = false → ∀ H', Same H H' → E (.ref (He.ga K "NoProgram")) none H') ∧
  (builtM d = true → ∃ P : Prog, d = P.data ∧ P.bd ∧ (lookM P = none → ∀ H', Same H H' → Q v H') ∧ ∀ c x, lookM P = some (c, x) → Raised K c x E H)
theorem pure_lookedX {K : PySem.W.Frag} {w : World} : PureOkX 1 (spLookedX K) (tx_looked K w spIsBuiltX (spXInit K (He.ga K "Twice") "name") (spUnlikeX K) spRowNames (spNamedX K 12)) 6 := by
  refine ⟨fun vs H Q E ⟨_, _, e, _⟩ => by rw [e]; rfl, ?_⟩
  rintro vs H Q E ⟨v, d, rfl, t, qno, qP⟩
  show tx_looked K w _ _ _ _ _ E _ [some v, none, none, none, none, none] H
  unfold tx_looked
  walk_at "gg"
  refine ⟨v, d, rfl, t, fun H1 s1 => ?_⟩
  walk_at "gg"
  by_cases hb : builtM d = true
  rotate_left
  · have hb' : builtM d = false := by simpa using hb
    refine g_T (by rw [hb']; rfl) ?_
    walk_at "gg"
    exact qno hb' H1 s1
  refine g_F (by rw [hb]; rfl) ?_
  obtain ⟨P, rfl, hbd, qn, qe⟩ := qP hb
  have tP := t.tp P.tpB
  clear qno qP t hb
  obtain ⟨pa, fa, u, vs, rfl, epa, efa, tfs, tas⟩ := tP.prog
  have hvl : vs.length = P.fs.length := by rw [tfs.length, List.length_map]
  have hfew := hbd.few
  have epa1 := s1 _ _ epa
  have efa1 := s1 _ _ efa
  have tfs1 := tfs.mono (Same.tk s1)
  have tas1 := tas.mono (Same.tk s1)
  clear epa efa tfs tas tP
  walk_at "gg"
  refine g_seqT ?_
  walk_at "gg"
  refine lc_mapT efa1 (by omega) (fun i y H' => ∃ nm, P.names[i]? = some nm ∧ y = .str nm) (fun i y H H' k h => h) ?_ ?_
  · intro i x H' Nx hx s hN
    obtain ⟨d, hd, td⟩ := tfs1.get hx
    rw [List.getElem?_map] at hd
    obtain ⟨f, hf, rfl⟩ := Option.map_eq_some_iff.mp hd
    obtain ⟨a3, b3, u3, rfl, ea3, eb3, tu3⟩ := td.fn1
    walk_at "gg"
    refine ⟨rfl, ?_⟩
    walk_at "gg"
    exact hN _ _ (.refl _) ⟨f.name, by show (P.fs.map _)[i]? = _; rw [List.getElem?_map, hf]; rfl, rfl⟩
  intro D ys H2 nD eD hys hF s2
  have hnl : P.names.length = P.fs.length := by show (P.fs.map _).length = _; rw [List.length_map]
  have hys2 : ys = P.names.map V.str := by
    refine List.ext_getElem? fun i => ?_
    cases e : ys[i]? with
    | none =>
      rw [List.getElem?_eq_none_iff] at e
      rw [List.getElem?_eq_none (by rw [List.length_map]; omega)]
    | some y =>
      obtain ⟨nm, hq, rfl⟩ := hF i y e
      rw [List.getElem?_map, hq]
      rfl
  subst hys2
  have epa2 := s2 _ _ epa1
  have efa2 := s2 _ _ efa1
  have tfs2 := tfs1.mono (Same.tk s2)
  have tas2 := tas1.mono (Same.tk s2)
  have s02 := s1.trans s2
  clear epa1 efa1 tfs1 tas1 s1 s2 hF nD hys
  walk_at "gg"
  have hj : ((P.names.map V.str).length : Int).toNat = P.names.length := by rw [List.length_map]; omega
  refine g_isrng (by omega) (by rw [List.length_map]; omega) ?_
  rw [hj]
  refine for_any P.names.length (fun i σ H' => ∃ x5, σ = [some (.ref pa), some (.ref D), none, none, none, x5] ∧ Same H2 H' ∧ dupG (P.names.take i) (P.names.drop i) = dupG [] P.names) ⟨_, rfl, .refl _, rfl⟩ (fun i σ H' hi _ => hi) (fun σ H' _ => Nat.le_refl _) ?_ ?_
  · rintro i x σ _ H3 hi ⟨x5, rfl, s3, hdup⟩ ⟨rfl, rfl⟩
    have el1 := s3 _ _ eD
    have hg : P.names[i]? = some P.names[i] := List.getElem?_eq_getElem hi
    rw [dup_at hi] at hdup
    walk_at "gg"
    rw [Int.zero_add]
    refine g_ixL (.of el1) (v := .str P.names[i]) (atI_of (by omega) (by rw [Int.toNat_natCast, List.getElem?_map, hg]; rfl)) ?_
    walk_at "gg"
    refine g_slL (.of el1) ?_
    rw [cut_to]
    walk_at "gg"
    rename_i l4 H4 n4 e4 s4
    refine g_inL (ss := P.names.take i) (.of e4) ?_
    walk_at "gg"
    by_cases hm : P.names[i] ∈ P.names.take i
    · rw [if_pos hm] at hdup
      refine g_T (decide_eq_true hm) ?_
      walk_at "gg"
      refine g_ixL (.of (s4 _ _ el1)) (v := .str P.names[i]) (atI_of (by omega) (by rw [Int.toNat_natCast, List.getElem?_map, hg]; rfl)) ?_
      walk_at "gg"
      exact g_raiseN ((qe "Twice" _ (by unfold lookM; rw [← hdup])).mono (s02.trans (s3.trans s4)))
    · rw [if_neg hm] at hdup
      refine g_F (decide_eq_false hm) ?_
      walk_at "gg"
      exact ⟨_, rfl, s3.trans s4, hdup⟩
  rintro σ H3 ⟨x5, rfl, s3, hdup⟩
  rw [List.drop_length] at hdup
  have hlook : lookM P = lookL P.names P.items := by unfold lookM; rw [← hdup]; rfl
  rw [hlook] at qn qe
  have epa3 := s3 _ _ epa2
  have efa3 := s3 _ _ efa2
  have tfs3 := tfs2.mono (Same.tk s3)
  have tas3 := tas2.mono (Same.tk s3)
  have eD3 := s3 _ _ eD
  have s03 := s02.trans s3
  clear epa2 efa2 tfs2 tas2 s02 s3 eD hlook hdup
  walk_at "gg"
  refine g_seqL ?_
  walk_at "gg"
  refine g_seqT ?_
  walk_at "gg"
  refine lc_mapT efa3 (by omega) (fun i y H' => ∃ c b u' f, P.fs[i]? = some f ∧ y = .ref c ∧ H' c = some (.tup [.ref b, u']) ∧ H' b = some (.tup (f.things.map V.str)) ∧ Tp H' u' f.body.data)
    (fun i y H H' k ⟨c, b, u', f, h1, h2, h3, h4, h5⟩ => ⟨c, b, u', f, h1, h2, k _ _ h3, k _ _ h4, h5.mono k⟩) ?_ ?_
  · intro i x H' Nx hx s hN
    obtain ⟨d, hd, td⟩ := tfs3.get hx
    rw [List.getElem?_map] at hd
    obtain ⟨f, hf, rfl⟩ := Option.map_eq_some_iff.mp hd
    obtain ⟨a3, b3, u3, rfl, ea3, eb3, tu3⟩ := td.fn1
    walk_at "gg"
    refine ⟨rfl, ?_⟩
    walk_at "gg"
    rename_i c4 H4 n4 e4 s4
    exact hN _ _ s4 ⟨c4, b3, u3, f, hf, rfl, e4, s4 _ _ (s _ _ eb3), (tu3.mono (Same.tk s)).mono (Same.tk s4)⟩
  intro D2 ys H4 nD2 eD2 hys hF s4
  have epa4 := s4 _ _ epa3
  have tas4 := tas3.mono (Same.tk s4)
  have eD4 := s4 _ _ eD3
  have s04 := s03.trans s4
  clear epa3 tas3 eD3 s03 s4 efa3 tfs3
  walk_at "gg"
  rename_i t5 H5 n5 e5 s5 c6 H6 n6 e6 s6 l7 H7 n7 e7 s7 l8 H8 n8 e8 s8
  have s48 : Same H4 H8 := s5.trans (s6.trans (s7.trans s8))
  have hyl : ys.length = P.fs.length := by rw [hys, hvl]
  have hitem : ∀ (i : Nat) x, (ys ++ [V.ref c6])[i]? = some x → ∃ c b u' ths bd, P.items[i]? = some (ths, bd) ∧ x = .ref c ∧ H8 c = some (.tup [.ref b, u']) ∧ H8 b = some (.tup ((ths : List Str).map V.str)) ∧ Tp H8 u' (Part.data bd) ∧ bd.bd ∧ ths.length ≤ 4 := by
    intro i x hx
    have hml : (P.fs.map fun f => (f.things, f.body)).length = ys.length := by rw [List.length_map, hyl]
    by_cases hi : i < ys.length
    · rw [List.getElem?_append_left hi] at hx
      obtain ⟨c, b, u', f, h1, h2, h3, h4, h5⟩ := hF i x hx
      have hff := hbd.fs f (List.mem_of_getElem? h1)
      exact ⟨c, b, u', f.things, f.body, by unfold Prog.items; rw [List.getElem?_append_left (by omega), List.getElem?_map, h1]; rfl, h2, s48 _ _ h3, s48 _ _ h4, h5.mono (Same.tk s48), hff.body, hff.few⟩
    · have hj := (List.getElem?_eq_some_iff.mp hx).1
      rw [List.length_append, List.length_singleton] at hj
      have hi' : i = ys.length := by omega
      subst hi'
      rw [List.getElem?_append_right (Nat.le_refl _), Nat.sub_self] at hx
      cases hx
      exact ⟨c6, t5, u, [], P.asked, by unfold Prog.items; rw [← hml, List.getElem?_append_right (Nat.le_refl _), Nat.sub_self]; rfl, rfl, s8 _ _ (s7 _ _ e6), s8 _ _ (s7 _ _ (s6 _ _ e5)), tas4.mono (Same.tk s48), hbd.asked, by decide⟩
  have hwl : (ys ++ [V.ref c6]).length = P.items.length := by unfold Prog.items; rw [List.length_append, List.length_append, List.length_map, hyl]; rfl
  have s08 := s04.trans s48
  have eD8 := s48 _ _ eD4
  clear hF eD4 tas4 epa4 e5 e6 e7 s5 s6 s7 s8 s48 n5 n6 n7 n8 s04 eD2 nD2
  generalize ys ++ [V.ref c6] = ws at *
  refine for_L (xs := ws) (fun i σ H' => ∃ x3 x4, σ = [some (.ref pa), some (.ref D), none, x3, x4, x5] ∧ Same H8 H' ∧ lookL P.names (P.items.drop i) = lookL P.names P.items) (fun i σ H' ⟨_, _, _, s, _⟩ => s _ _ e8) ⟨_, _, rfl, .refl _, rfl⟩ ?_ ?_
  rotate_left
  · rintro σ H9 ⟨x3, x4, rfl, s9, hlk⟩
    rw [hwl, List.drop_length] at hlk
    walk_at "gg"
    exact qn hlk.symm H9 (s08.trans s9)
  rintro i x σ H9 hx ⟨x3, x4, rfl, s9, hlk⟩
  obtain ⟨c, b, u', ths, bd, hit, rfl, ec, eb, tb, hb, hl4⟩ := hitem i x hx
  rw [lookL_at hit] at hlk
  have ec9 := s9 _ _ ec
  have eb9 := s9 _ _ eb
  have tb9 := tb.mono (Same.tk s9)
  have eD9 := s9 _ _ eD8
  clear ec eb tb
  walk_at "gg"
  rename_i l10 H10 n10 e10 s10
  have hrs := bd.rn_size
  have hbz := hb.size
  have hbd' := hb.deep
  refine ⟨u', bd, rfl, tb9.mono (Same.tk s10), hb.good, hb.size, fun l11 H11 n11 e11 s11 => ?_⟩
  refine g_addL (s11 _ _ e10) e11 (by simp only [List.length_map]; show _ ≤ 16777216; omega) ?_
  walk_at "gg"
  rename_i l12 H12 n12 e12 s12
  rw [← List.map_append] at e12
  have s912 := s10.trans (s11.trans s12)
  refine ⟨l12, ths ++ bd.rowNames, rfl, e12, by rw [List.length_append]; omega, fun hno H13 s13 => ?_, fun z hz => ?_⟩
  rotate_left
  · have hF2 : lookF P.names (ths, bd) = some (("Hidden" : Str), z) := by unfold lookF; rw [hz]
    rw [hF2] at hlk
    exact (qe "Hidden" z (by rw [← hlk]; rfl)).mono (s08.trans (s9.trans s912))
  have hF2 : lookF P.names (ths, bd) = (bd.odd P.names ths).map fun x => (("Stranger" : Str), x) := by unfold lookF; rw [hno]
  rw [hF2] at hlk
  have s913 := s912.trans s13
  have eb13 := s913 _ _ eb9
  have tb13 := tb9.mono (Same.tk s913)
  have eD13 := s913 _ _ eD9
  clear eb9 tb9 eD9 s10 s11 s12 s13 e10 e11 e12 n10 n11 n12 ec9 s912
  walk_at "gg"
  rename_i l14 H14 n14 e14 s14
  refine ⟨u', l14, D, bd, P.names, ths, rfl, tb13.mono (Same.tk s14), hb.shape, hb.deep, hb.size, e14, s14 _ _ eD13, by omega, fun hno2 H15 s15 => ?_, fun z hz => ?_⟩
  · rw [hno2] at hlk
    exact ⟨_, _, rfl, s9.trans (s913.trans (s14.trans s15)), by rw [← hlk]; rfl⟩
  · rw [hz] at hlk
    exact (qe "Stranger" z (by rw [← hlk]; rfl)).mono (s08.trans (s9.trans (s913.trans s14)))

/-! ### what the law tells of a look -/
def t_toldR (K : PySem.W.Frag) (w : World) : TS :=
  (tSeq (tIfS (tTest (tOp (rIsG false) (tVar 2) (tC .non))) (tRet (tIf (tTest (tOp (rEqG K) (tVar 1) (tVar 0))) (tTupN (tCons (tC (.str "")) (tCons (tC (.str "")) tNil))) (tTupN (tCons (tC (.str "another")) (tCons (tC (.str "")) tNil))))) tNext)
  (tSeq (tAsg (tLstN (tCons (tCB (rIsiX K) (tCons (tVar 2) (tCons (tC (.ref (He.ga K "NoProgram"))) tNil))) (tCons (tCB (rIsiX K) (tCons (tVar 2) (tCons (tC (.ref (He.ga K "Twice"))) tNil))) (tCons (tCB (rIsiX K) (tCons (tVar 2) (tCons (tC (.ref (He.ga K "Hidden"))) tNil))) tNil)))) (gName 4))
  (tSeq (tAsg (tOp (rAddG K) (tVar 4) (tLstN (tCons (tCB (rIsiX K) (tCons (tVar 2) (tCons (tC (.ref (He.ga K "Stranger"))) tNil))) (tCons (tCB (rIsiX K) (tCons (tVar 2) (tCons (tC (.ref (He.ga K "More"))) tNil))) (tCons (tCB (rIsiX K) (tCons (tVar 2) (tCons (tC (.ref (He.ga K "NoRows"))) tNil))) tNil))))) (gName 4))
  (tSeq (tAsg (tOp (rAddG K) (tVar 4) (tLstN (tCons (tCB (rIsiX K) (tCons (tVar 2) (tCons (tC (.ref (He.ga K "NoText"))) tNil))) (tCons (tCB (rIsiX K) (tCons (tVar 2) (tCons (tC (.ref (He.ga K "NoRow"))) tNil))) tNil)))) (gName 4))
  (tSeq (tIfS (tOr (tTest (tOp (rNeG K) (tBM K "list" (rCount K) (tVar 4) (tCons (tC (.bl true)) tNil)) (tC (.int 1)))) (tOr (tNot (tTru K (tCB (rIsiX K) (tCons (tVar 2) (tCons (tC (.ty "ValueError")) tNil))))) (tTest (tOp rGtG (tBM K "list" (rIndex K) (tVar 4) (tCons (tC (.bl true)) tNil)) (tC (.int 3)))))) (tRet (tTupN (tCons (tC (.str "none")) (tCons (tC (.str "")) tNil)))) tNext)
  (tSeq (tIfS (tTru K (tIxG K w (tVar 4) (tC (.int 0)))) (tRet (tTupN (tCons (tC (.str "program")) (tCons (tC (.str "")) tNil)))) tNext)
  (tRet (tTupN (tCons (tIxG K w (tLstN (tCons (tC (.str "program")) (tCons (tC (.str "twice")) (tCons (tC (.str "hidden")) (tCons (tC (.str "stranger")) tNil))))) (tBM K "list" (rIndex K) (tVar 4) (tCons (tC (.bl true)) tNil))) (tCons (tFldX K "name" (tVar 2)) tNil))))))))))
def wordE (c : Str) : Str := if c = "NoProgram" then "program" else if c = "Twice" then "twice" else if c = "Hidden" then "hidden" else "stranger"
theorem told_rest {K : PySem.W.Frag} {w : World} {D : Ends} {H : Hp} {x0 x1 x3 x4 : Option V} {a : Addr} {c : Str} {d : Option Addr} (b0 b1 b2 b3 b4 b5 b6 b7 : Bool) (ha : H a = some (hxc a (He.ga K c) d)) (hd : ∀ dd, d = some dd → ∃ fs, H dd = some (.xd fs)) (ec : ErrC K c)
    (h0 : decide (c = "NoProgram") = b0) (h1 : decide (c = "Twice") = b1) (h2 : decide (c = "Hidden") = b2) (h3 : decide (c = "Stranger") = b3) (h4 : decide (c = "More") = b4) (h5 : decide (c = "NoRows") = b5) (h6 : decide (c = "NoText") = b6) (h7 : decide (c = "NoRow") = b7) (hc : ([V.bl b0, .bl b1, .bl b2, .bl b3, .bl b4, .bl b5, .bl b6, .bl b7].countP fun z => L2.eqV z (.bl true)) = 1) (j : Nat) (hj : [V.bl b0, .bl b1, .bl b2, .bl b3, .bl b4, .bl b5, .bl b6, .bl b7][j]? = some (.bl true))
    (hmin : ∀ (m : Nat) (z' : V), m < j → [V.bl b0, .bl b1, .bl b2, .bl b3, .bl b4, .bl b5, .bl b6, .bl b7][m]? = some z' → L2.eqV z' (.bl true) = false) (hj3 : j ≤ 3) (s : Str) (hs : [V.str "program", .str "twice", .str "hidden", .str "stranger"][j]? = some (.str s))
    (q0 : b0 = true → ∀ t H', Same H H' → H' t = some (.tup [.str "program", .str ""]) → D.rt (.ref t) H')
    (q1 : b0 = false → PySem.W.findIn K (.ref (He.ga K c)) "name" = some none ∧ ∃ dd x, d = some dd ∧ H dd = some (.xd [("name", .str x)]) ∧ ∀ t H', Same H H' → H' t = some (.tup [.str s, .str x]) → D.rt (.ref t) H') :
    t_toldR K w D [x0, x1, some (.ref a), x3, x4] H := by
  have hI : ∀ (t : Str) (b : Bool), t ∈ (["NoProgram", "Twice", "Hidden", "Stranger", "More", "NoRows", "NoText", "NoRow"] : List Str) → decide (c = t) = b → PySem.W.kitOne K (.ref (He.ga K c)) (.ref (He.ga K t)) = some b := fun t b ht hb => by rw [← hb]; exact ec.is t ht
  have hd' : ∀ {H'}, Same H H' → ∀ dd, d = some dd → ∃ fs, H' dd = some (.xd fs) := fun s dd e => by obtain ⟨fs, h⟩ := hd dd e; exact ⟨fs, s _ _ h⟩
  unfold t_toldR
  walk_at "gg"
  refine .inl ⟨rfl, ?_⟩
  walk_at "gg"
  refine g_isXR ha hd ec.x (hI "NoProgram" b0 (by simp) h0) ?_
  walk_at "gg"
  refine g_isXR ha hd ec.x (hI "Twice" b1 (by simp) h1) ?_
  walk_at "gg"
  refine g_isXR ha hd ec.x (hI "Hidden" b2 (by simp) h2) ?_
  walk_at "gg"
  rename_i l1 H1 n1 e1 s1
  refine g_isXR (s1 _ _ ha) (hd' s1) ec.x (hI "Stranger" b3 (by simp) h3) ?_
  walk_at "gg"
  refine g_isXR (s1 _ _ ha) (hd' s1) ec.x (hI "More" b4 (by simp) h4) ?_
  walk_at "gg"
  refine g_isXR (s1 _ _ ha) (hd' s1) ec.x (hI "NoRows" b5 (by simp) h5) ?_
  walk_at "gg"
  rename_i l2 H2 n2 e2 s2 l3 H3 n3 e3 s3
  have s13 := s1.trans (s2.trans s3)
  refine g_isXR (s13 _ _ ha) (hd' s13) ec.x (hI "NoText" b6 (by simp) h6) ?_
  walk_at "gg"
  refine g_isXR (s13 _ _ ha) (hd' s13) ec.x (hI "NoRow" b7 (by simp) h7) ?_
  walk_at "gg"
  rename_i l4 H4 n4 e4 s4 l5 H5 n5 e5 s5
  have s15 := s13.trans (s4.trans s5)
  have e5' : H5 l5 = some (.lst [V.bl b0, .bl b1, .bl b2, .bl b3, .bl b4, .bl b5, .bl b6, .bl b7]) := e5
  refine g_count (.of e5') rfl rfl ?_
  rw [hc]
  walk_at "gg"
  refine g_isXT (s15 _ _ ha) (hd' s15) ec.x ec.ve ?_
  walk_at "gg"
  refine ⟨l5, _, .bl true, j, .bl true, rfl, rfl, .of e5', rfl, rfl, hj, rfl, hmin, ?_⟩
  walk_at "gg"
  refine g_F (decide_eq_false (by omega)) ?_
  walk_at "gg"
  refine g_ite (fun hb => ?_) (fun hb => ?_)
  · walk_at "gg"
    rename_i t6 H6 n6 e6 s6
    exact q0 hb t6 H6 (s15.trans s6) e6
  · obtain ⟨hnm, dd, x, rfl, hdd, q⟩ := q1 hb
    walk_at "gg"
    rename_i l6 H6 n6 e6 s6
    have s16 := s15.trans s6
    refine ⟨l5, _, .bl true, j, .bl true, rfl, rfl, .of (s6 _ _ e5'), rfl, rfl, hj, rfl, hmin, ?_⟩
    walk_at "gg"
    refine g_ixL (.of e6) (v := .str s) (atI_of (by omega) (by rw [Int.toNat_natCast]; exact hs)) ?_
    walk_at "gg"
    refine g_fldX ?_
    walk_at "gg"
    refine ⟨a, He.ga K c, dd, [("name", .str x)], .str x, rfl, s16 _ _ ha, s16 _ _ hdd, ec.x, hnm, rfl, ?_⟩
    walk_at "gg"
    rename_i t7 H7 n7 e7 s7
    exact q t7 H7 (s16.trans s7) e7
theorem lookF_cls {fs : List Str} {q : List Str × Part} {c x : Str} (h : lookF fs q = some (c, x)) : c = "Hidden" ∨ c = "Stranger" := by
  unfold lookF at h
  split at h
  · cases h; exact .inl rfl
  · cases e : q.2.odd fs q.1 with
    | none => rw [e] at h; cases h
    | some y => rw [e] at h; cases h; exact .inr rfl
theorem lookL_cls {fs : List Str} {c x : Str} : ∀ {qs : List (List Str × Part)}, lookL fs qs = some (c, x) → c = "Hidden" ∨ c = "Stranger"
  | [], h => by cases h
  | q :: qs, h => by
    have h' : (lookF fs q).or (lookL fs qs) = some (c, x) := h
    cases e : lookF fs q with
    | none => rw [e, Option.none_or] at h'; exact lookL_cls h'
    | some y =>
      rw [e] at h'
      cases h'
      exact lookF_cls e
theorem lookM_cls {P : Prog} {c x : Str} (h : lookM P = some (c, x)) : c = "Twice" ∨ c = "Hidden" ∨ c = "Stranger" := by
  unfold lookM at h
  split at h
  · cases h; exact .inl rfl
  · exact .inr (lookL_cls h)
def spToldX : Sp := fun vs H Q _ => ∃ (v : V) (d : PyData), vs = [v] ∧ Gq H v d ∧ (builtM d = false → ∀ t H', Same H H' → H' t = some (.tup [.str "program", .str ""]) → Q (.ref t) H') ∧
  (builtM d = true → ∃ P : Prog, d = P.data ∧ P.bd ∧ (lookM P = none → ∀ t H', Same H H' → H' t = some (.tup [.str "", .str ""]) → Q (.ref t) H') ∧ ∀ c x, lookM P = some (c, x) → ∀ t H', Same H H' → H' t = some (.tup [.str (wordE c), .str x]) → Q (.ref t) H')
theorem prog_like {K : PySem.W.Frag} {H : Hp} {v : V} {P : Prog} (t : Tp H v P.data) (hb : P.bd) : LkR K H (Lk K H 150) v v := by
  obtain ⟨pa, fa, u, vs, rfl, epa, efa, tfs, tas⟩ := t.prog
  obtain ⟨ua, us, rfl, _, _⟩ := tas.part
  exact .inr ⟨pa, pa, _, _, rfl, rfl, .of epa, .of epa, .cons (.inr (.inl ⟨fa, rfl, rfl⟩)) (.cons (.inr (.inl ⟨ua, rfl, rfl⟩)) .nil)⟩
theorem pure_toldX {K : PySem.W.Frag} {w : World} (er : Errs K) : PureOk 1 spToldX (t_law_told K w (spLookedX K)) 5 := by
  refine ⟨fun vs H Q E ⟨_, _, e, _⟩ => by rw [e]; rfl, ?_⟩
  rintro vs H Q E ⟨v, d, rfl, t, qno, qP⟩
  show t_law_told K w _ _ [some v, none, none, none, none] H
  unfold t_law_told
  walk_at "gg"
  refine ⟨v, d, rfl, t, fun hb H1 s1 => ?_, fun hb => ?_⟩
  rotate_left
  · obtain ⟨P, hP, hbd, qn, qe⟩ := qP hb
    subst hP
    refine ⟨P, rfl, hbd, fun hl H1 s1 => ?_, fun c x hl dd H1 hdn hdd s1 => ?_⟩
    · walk_at "gg"
      refine .inl ⟨rfl, ?_⟩
      walk_at "gg"
      have tP := (t.tp P.tpB).mono (Same.tk s1)
      refine g_eqLk (prog_like tP hbd) (Nat.le_refl 150) ?_
      walk_at "gg"
      rename_i t2 H2 n2 e2 s2
      exact qn hl t2 H2 (s1.trans s2) e2
    have hcls := lookM_cls hl
    have q' := qe c x hl
    have ec : ErrC K c := by
      rcases hcls with rfl | rfl | rfl
      · exact er.s.t
      · exact er.s.h
      · exact er.s.s
    refine ⟨_, rfl, ec.lz, fun a ha => ?_⟩
    refine g_asg (g_var (v := .ref a) rfl (g_name rfl ?_))
    have s1a : Same H1 (upd H1 a (hxc a (He.ga K c) (some dd))) := same_upd ha
    have hdd' := s1a _ _ hdd
    rcases hcls with rfl | rfl | rfl
    · show t_toldR K w _ [some v, some .non, some (.ref a), none, none] _
      exact told_rest false true false false false false false false upd_same (fun d e => by cases e; exact ⟨_, hdd'⟩) ec (by decide +kernel) (by decide +kernel) (by decide +kernel) (by decide +kernel) (by decide +kernel) (by decide +kernel) (by decide +kernel) (by decide +kernel) rfl 1 rfl (fun m z' h hz => by
          have hm : m < 1 := h
          match m, hm with
          | 0, _ => cases hz; rfl
          ) (by decide) (wordE "Twice") (by decide +kernel) (fun h => by cases h) (fun _ => ⟨er.s.ti.nm, dd, x, rfl, hdd', fun t H' s' e => q' t H' (s1.trans (s1a.trans s')) e⟩)
    · show t_toldR K w _ [some v, some .non, some (.ref a), none, none] _
      exact told_rest false false true false false false false false upd_same (fun d e => by cases e; exact ⟨_, hdd'⟩) ec (by decide +kernel) (by decide +kernel) (by decide +kernel) (by decide +kernel) (by decide +kernel) (by decide +kernel) (by decide +kernel) (by decide +kernel) rfl 2 rfl (fun m z' h hz => by
          have hm : m < 2 := h
          match m, hm with
          | 0, _ => cases hz; rfl
          | 1, _ => cases hz; rfl
          ) (by decide) (wordE "Hidden") (by decide +kernel) (fun h => by cases h) (fun _ => ⟨er.s.hi.nm, dd, x, rfl, hdd', fun t H' s' e => q' t H' (s1.trans (s1a.trans s')) e⟩)
    · show t_toldR K w _ [some v, some .non, some (.ref a), none, none] _
      exact told_rest false false false true false false false false upd_same (fun d e => by cases e; exact ⟨_, hdd'⟩) ec (by decide +kernel) (by decide +kernel) (by decide +kernel) (by decide +kernel) (by decide +kernel) (by decide +kernel) (by decide +kernel) (by decide +kernel) rfl 3 rfl (fun m z' h hz => by
          have hm : m < 3 := h
          match m, hm with
          | 0, _ => cases hz; rfl
          | 1, _ => cases hz; rfl
          | 2, _ => cases hz; rfl
          ) (by decide) (wordE "Stranger") (by decide +kernel) (fun h => by cases h) (fun _ => ⟨er.s.si.nm, dd, x, rfl, hdd', fun t H' s' e => q' t H' (s1.trans (s1a.trans s')) e⟩)
  · refine ⟨_, rfl, er.s.p.lz, fun a ha => ?_⟩
    refine g_asg (g_var (v := .ref a) rfl (g_name rfl ?_))
    have s1a : Same H1 (upd H1 a (hxc a (He.ga K "NoProgram") none)) := same_upd ha
    show t_toldR K w _ [some v, some .non, some (.ref a), none, none] _
    exact told_rest true false false false false false false false upd_same (fun dd e => by cases e) er.s.p (by decide +kernel) (by decide +kernel) (by decide +kernel) (by decide +kernel) (by decide +kernel) (by decide +kernel) (by decide +kernel) (by decide +kernel) rfl 0 rfl (fun m z' h => absurd h (Nat.not_lt_zero _)) (by decide) "program" rfl
      (fun _ t H' s' e => qno hb t H' (s1.trans (s1a.trans s')) e) (fun h => by cases h)

/-! ### data kept while others are made -/
theorem PenAt.tl {H H' : Hp} {pen L : Addr} (p : PenAt H pen L) (p' : PenAt H' pen L) (c : Chg pen H H') : Tl H H' := by
  obtain ⟨_, _, _, h, _⟩ := p
  obtain ⟨_, _, _, h', _⟩ := p'
  exact c.tl h h'
theorem Tl.same {H H1 H2 : Hp} (t : Tl H H1) (s : Same H1 H2) : Tl H H2 := t.trans (Same.tl s)
theorem Tl.pen {H H1 H2 : Hp} {pen L : Addr} (t : Tl H H1) (p : PenAt H1 pen L) (p' : PenAt H2 pen L) (c : Chg pen H1 H2) : Tl H H2 := t.trans (p.tl p' c)
theorem Gq.to {H H' : Hp} {v : V} {d : PyData} (h : Gq H v d) (k : Tl H H') : Gq H' v d := h.mono k
theorem Gqs.to {H H' : Hp} {vs : List V} {ds : List PyData} (h : Gqs H vs ds) (k : Tl H H') : Gqs H' vs ds := h.mono k
mutual
def shB : PyData → Bool
  | .none => true
  | .bool _ => true
  | .int _ => true
  | .str x => decide (x.length ≤ 16777216)
  | .tuple ds => shsB ds
  | .list _ => false
  | .dict _ => false
def shsB : List PyData → Bool
  | [] => true
  | d :: ds => shB d && shsB ds
end
mutual
theorem Tp.gq {H : Hp} : ∀ {d : PyData} {v : V}, Tp H v d → shB d = true → Gq H v d
  | .none, _, h, _ => by cases h; exact .non
  | .bool b, _, h, _ => by cases h; exact .bl b
  | .int i, _, h, _ => by cases h; exact .int i
  | .str x, _, h, e => by cases h; exact .str x (of_decide_eq_true (p := x.length ≤ 16777216) e)
  | .tuple ds, _, h, e => by
    cases h with
    | tup ea r => exact .tup ea (Tps.gq r e)
  | .list ds, _, h, _ => by cases h
  | .dict ds, _, h, _ => by cases h
theorem Tps.gq {H : Hp} : ∀ {ds : List PyData} {vs : List V}, Tps H vs ds → shsB ds = true → Gqs H vs ds
  | [], _, h, _ => by cases h; exact .nil
  | d :: ds, _, h, e => by
    have e' : (shB d && shsB ds) = true := e
    rw [Bool.and_eq_true] at e'
    cases h with
    | cons a b => exact .cons (Tp.gq a e'.1) (Tps.gq b e'.2)
end
theorem sh_name {x : Str} (h : isName x) : shB (.str x) = true := decide_eq_true (p := x.length ≤ 16777216) (by have := h.2.1; omega)
theorem sh_k1 (k : K1) : shB (.str k.word) = true := by cases k <;> decide +kernel
theorem sh_k2 (k : K2) : shB (.str k.word) = true := by cases k <;> decide +kernel
theorem sh_ws : shB (.str "number") = true ∧ shB (.str "name") = true ∧ shB (.str "fun") = true ∧ shB (.str "when") = true ∧ shB (.str "let") = true := by decide +kernel
mutual
theorem Part.shape.sh : ∀ {p : Part}, p.shape → shB p.data = true
  | .num n, _ => by show (shB (.str "number") && (true && true)) = true; rw [sh_ws.1]; rfl
  | .name x, h => by show (shB (.str "name") && (shB (.str x) && true)) = true; rw [sh_ws.2.1, sh_name h]; rfl
  | .fn x, h => by show (shB (.str "fun") && (shB (.str x) && true)) = true; rw [sh_ws.2.2.1, sh_name h]; rfl
  | .one k a, h => by show (shB (.str k.word) && (shB a.data && true)) = true; rw [sh_k1, Part.shape.sh (p := a) h]; rfl
  | .two k a b, h => by show (shB (.str k.word) && (shB a.data && (shB b.data && true))) = true; rw [sh_k2, Part.shape.sh (p := a) h.1, Part.shape.sh (p := b) h.2]; rfl
  | .whn a b c, h => by show (shB (.str "when") && (shB a.data && (shB b.data && (shB c.data && true)))) = true; rw [sh_ws.2.2.2.1, Part.shape.sh (p := a) h.1, Part.shape.sh (p := b) h.2.1, Part.shape.sh (p := c) h.2.2]; rfl
  | .letp r a, h => by show (shB (.str "let") && (shsB r.datas && (shB a.data && true))) = true; rw [sh_ws.2.2.2.2, Rows.shape.sh (r := r) h.2.2.2.1 h.2.2.1, Part.shape.sh (p := a) h.2.2.2.2]; rfl
  | .shut _, h => h.elim
theorem Rows.shape.sh : ∀ {r : Rows}, r.shape → (∀ x ∈ r.names, isName x) → shsB r.datas = true
  | .nil, _, _ => rfl
  | .cons x a r, h, hn => by show ((shB (.str x) && (shB a.data && true)) && shsB r.datas) = true; rw [sh_name (hn x List.mem_cons_self), Part.shape.sh (p := a) h.1, Rows.shape.sh (r := r) h.2 fun y hy => hn y (List.mem_cons_of_mem _ hy)]; rfl
end
theorem shsB_all : ∀ {ds : List PyData}, (∀ d ∈ ds, shB d = true) → shsB ds = true
  | [], _ => rfl
  | d :: ds, h => by show (shB d && shsB ds) = true; rw [h d List.mem_cons_self, shsB_all fun x hx => h x (List.mem_cons_of_mem _ hx)]; rfl
theorem Fn1.bd.sh {f : Fn1} (h : f.bd) : shB f.data = true := by
  show (shB (.str f.name) && (shsB (f.things.map PyData.str) && (shB f.body.data && true))) = true
  rw [sh_name h.nm, h.body.shape.sh, shsB_all fun d hd => by obtain ⟨s, hs, rfl⟩ := List.mem_map.mp hd; exact sh_name (h.th s hs)]; rfl
theorem Prog.bd.shs {P : Prog} (h : P.bd) : shsB (P.fs.map Fn1.data) = true := shsB_all fun d hd => by obtain ⟨f, hf, rfl⟩ := List.mem_map.mp hd; exact (h.fs f hf).sh
theorem Prog.bd.sh {P : Prog} (h : P.bd) : shB P.data = true := by
  show (shsB (P.fs.map Fn1.data) && (shB P.asked.data && true)) = true
  rw [h.shs, h.asked.shape.sh]; rfl
section
variable {K : PySem.W.Frag} {H : Hp} {Q : VK} {a b : Addr} {xs ys : List V}
end
theorem Gqs.take {H : Hp} : ∀ {xs : List V} {ds : List PyData} (n : Nat), Gqs H xs ds → Gqs H (xs.take n) (ds.take n)
  | _, _, 0, _ => .nil
  | [], _, n + 1, h => by cases h; exact .nil
  | x :: xs, _, n + 1, h => by
    cases h with
    | cons a b => exact .cons a (Gqs.take n b)
theorem Gqs.drop {H : Hp} : ∀ {xs : List V} {ds : List PyData} (n : Nat), Gqs H xs ds → Gqs H (xs.drop n) (ds.drop n)
  | _, _, 0, h => h
  | [], _, n + 1, h => by cases h; exact .nil
  | x :: xs, _, n + 1, h => by
    cases h with
    | cons a b => exact Gqs.drop n b
theorem depth_strs : ∀ ss : List Str, PyData.depthAll (ss.map PyData.str) = 0
  | [] => by rw [List.map_nil, PyData.depthAll]
  | s :: ss => by rw [List.map_cons, PyData.depthAll, depth_strs ss, PyData.depth]; rfl
theorem g_cutA {A : Prop} (C : Addr → Hp → Prop) {B : Addr → Hp → Prop} (f : (∀ l H', C l H' → B l H') → A) (b : ∀ l H', C l H' → B l H') : A := f b

local macro_rules | `(tactic| walk_at "tl") => `(tactic| first
  | assumption
  | exact Tl.refl _
  | ((with_reducible refine Tl.same (H1 := ?gh) ?gt ?gs); (case gs => assumption); walk_at "tl")
  | ((with_reducible refine Tl.pen (H1 := ?gh) (pen := ?gp) (L := ?gq) ?gt ?g1 ?g2 ?gs); (case gs => assumption); (case g1 => walk_at "pen"); (case g2 => walk_at "pen"); walk_at "tl"))
local macro_rules | `(tactic| walk_at "gqs") => `(tactic| first
  | assumption
  | exact Gqs.nil
  | exact Gqs.cons (by walk_at "gq") (by walk_at "gqs")
  | exact Gqs.to (by assumption) (by walk_at "tl"))
local macro_rules | `(tactic| walk_at "gq") => `(tactic| first
  | assumption
  | exact Gq.non
  | exact Gq.bl _
  | exact Gq.int _
  | exact Gq.str _ (by decide +kernel)
  | exact Gq.to (by assumption) (by walk_at "tl")
  | exact Gq.tup (by walk_at "at") (by walk_at "gqs")
  | exact Gq.lst (ds := []) (by walk_at "at"))

/-! ### the law's own look: names, parts of anything -/
/-- a comprehension that keeps what passes: is anything kept? -/
theorem lc_sift {K : PySem.W.Frag} {g : TG} {tt : TT} {te : TE} {vs : List Nat} {σ : L2.St} {H1 : Hp} {J : It} {Qd : Addr → Hp → Prop} (n : Nat) (f : Nat → Bool) (hJ1 : ∀ i H', i < n → Same H1 H' → J.go i H') (hJ2 : ∀ H', Same H1 H' → J.stop n H') (hl : n ≤ 100000)
    (hs : ∀ (i : Nat) x H' H'' (Na : V → Hp → Prop) (Nb : Hp → Prop), i < n → Same H1 H' → J.yld i H' x H'' → (∀ y H4, f i = true → Same H' H4 → Na y H4) → (∀ H4, f i = false → Same H' H4 → Nb H4) →
      g x (wipe σ vs) H'' fun σ2 H2 => wipe σ2 vs = wipe σ vs ∧ tt σ2 H2 fun b H3 => if b = true then te σ2 H3 Na else Nb H3)
    (hd : ∀ D ys H', Fr H1 D → H' D = some (.lst ys) → ys.isEmpty = (List.range n).all (fun i => !f i) → Same H1 H' → Qd D H') : LcR J g tt te vs σ H1 Qd := by
  intro D hD
  refine lc_any n (fun i acc H' => acc.isEmpty = (List.range i).all (fun i => !f i) ∧ Same H1 H') hD (fun H' _ s => ⟨rfl, s⟩) (fun i acc H' hi ⟨_, s⟩ => hJ1 i H' hi s) (fun acc H' ⟨_, s⟩ => hJ2 H' s) ?_ ?_
  · rintro i x acc H2 H' hi hla ⟨ha, s2⟩ hd2 hy
    refine hs i x _ _ _ _ hi s2 hy (fun y H4 hf s4 => ?_) fun H4 hf s4 => ?_
    · refine lc_step (s4 _ _ hd2) hla (by show _ < 16777216; omega) fun H5 e5 c5 => ?_
      refine ⟨?_, Same.chg (s2.trans s4) hD c5⟩
      rw [List.range_succ, List.all_append, List.all_cons, hf]
      cases acc <;> simp
    · refine ⟨acc, s4 _ _ hd2, by omega, ?_, s2.trans s4⟩
      rw [List.range_succ, List.all_append, List.all_cons, hf, ha]
      simp
  · rintro acc H' hd2 ⟨ha, s⟩
    exact hd D acc H' hD hd2 ha s
theorem range_all {α : Type} (xs : List α) (p : α → Bool) (f : Nat → Bool) (h : ∀ i x, xs[i]? = some x → f i = p x) : (List.range xs.length).all f = xs.all p := by
  rw [Bool.eq_iff_iff, List.all_eq_true, List.all_eq_true]
  constructor
  · intro hh x hx
    obtain ⟨i, hi⟩ := List.mem_iff_getElem?.mp hx
    rw [← h i x hi]
    exact hh i (List.mem_range.mpr (List.getElem?_eq_some_iff.mp hi).1)
  · intro hh i hi
    have hi' := List.mem_range.mp hi
    rw [h i _ (List.getElem?_eq_getElem hi')]
    exact hh _ (List.getElem_mem hi')
theorem pure_lnameX {K : PySem.W.Frag} {w : World} : PureOk 1 spIsNameX (t_law_is_name K w) 2 := by
  refine ⟨fun vs H Q E ⟨_, _, e, _⟩ => by rw [e]; rfl, ?_⟩
  rintro vs H Q E ⟨v, d, rfl, t, q⟩
  show t_law_is_name K w _ [some v, none] H
  unfold t_law_is_name
  walk_at "gg"
  refine g_isiStr t ?_
  walk_at "gg"
  cases d with
  | str s =>
    obtain ⟨rfl, hsl⟩ := t.str_inv
    refine g_F rfl ?_
    walk_at "gg"
    refine g_lenS hsl ?_
    walk_at "gg"
    by_cases h1 : s.length < 1
    · refine g_T (decide_eq_true (by omega)) ?_
      walk_at "gg"
      have := q H (.refl _)
      rwa [show nameM (.str s) = false from decide_eq_false (p := isName s) (fun h => by have := h.1; omega)] at this
    refine g_F (decide_eq_false (by omega)) ?_
    walk_at "gg"
    refine g_lenS hsl ?_
    walk_at "gg"
    by_cases h8 : 8 < s.length
    · refine g_T (decide_eq_true (by omega)) ?_
      have := q H (.refl _)
      rw [show nameM (.str s) = false from decide_eq_false (p := isName s) (fun h => by have := h.2.1; omega)] at this
      walk_at "gg"
      exact this
    refine g_F (decide_eq_false (by omega)) ?_
    walk_at "gg"
    refine g_seqS ?_
    walk_at "gg"
    have hsz : s.cps.toList.length = s.length := by simp [Str.length]
    refine lc_sift (K := K) s.cps.toList.length (fun i => match s.cps.toList[i]? with | some c => !alphc c | none => false) (fun i H' hi _ => by show i < s.cps.size; rw [← Array.length_toList]; exact hi) (fun H' _ => by show s.cps.size ≤ _; rw [← Array.length_toList]; exact Nat.le_refl _) (by omega) ?_ ?_
    · rintro i x H' H'' Na Nb hi s1 ⟨rfl, c', hc', rfl⟩ hA hB
      rw [← Array.getElem?_toList] at hc'
      rw [hc'] at hA hB
      walk_at "gg"
      refine ⟨rfl, ?_⟩
      walk_at "gg"
      refine .inr (.inl ⟨_, abc, rfl, rfl, ?_⟩)
      show ∃ k, V.bl (!(!(Builtin.Str.occurrences abc ⟨#[c']⟩ 0 abc.length 1).isEmpty)) = .bl k ∧ _
      rw [alph_in]
      refine ⟨_, rfl, ?_⟩
      refine g_ite (fun h => ?_) (fun h => ?_)
      · walk_at "gg"
        exact hA _ _ h (.refl _)
      · exact hB _ h (.refl _)
    · intro D ys H' nD eD hys s1
      walk_at "gg"
      rename_i l2 H2 n2 e2 s2
      rw [range_all s.cps.toList alphc _ (fun i c hc => by rw [hc]; simp)] at hys
      rw [hys]
      have := q H2 (s1.trans s2)
      rwa [show nameM (.str s) = s.cps.toList.all alphc from by
        show decide (isName s) = _
        rw [Bool.eq_iff_iff, List.all_eq_true, decide_eq_true_iff]
        unfold alphc isName
        constructor
        · rintro ⟨_, _, h⟩ c hc
          have := h c hc
          simp only [Bool.and_eq_true, decide_eq_true_iff]; omega
        · intro h
          exact ⟨by omega, by omega, fun c hc => by have := h c hc; simp only [Bool.and_eq_true, decide_eq_true_iff] at this; omega⟩] at this
  | _ =>
    refine g_T rfl ?_
    walk_at "gg"
    exact q H (.refl _)
def counts9 : List (Key × V) := [(.inr "give", .int 2), (.inr "plus", .int 2), (.inr "less", .int 2), (.inr "times", .int 2), (.inr "below", .int 2), (.inr "when", .int 3), (.inr "pair", .int 2), (.inr "left", .int 1), (.inr "right", .int 1)]
theorem counts_merge : mergeK [] counts9 = counts9 := by decide +kernel
theorem counts_val (s : Str) : valV counts9 (.inr s) = (PARTSkvs.find? fun q => decide (q.1 = s)).map (·.2) := by
  have e : counts9 = PARTSkvs.map fun q => (Sum.inr q.1, q.2) := rfl
  unfold valV
  rw [e, List.find?_map, Option.map_map]
  have e2 : ((fun kv : Key × V => decide (kv.1 = Sum.inr s)) ∘ fun q : Str × V => ((Sum.inr q.1 : Key), q.2)) = fun q => decide (q.1 = s) := by
    funext q
    exact decide_eq_decide.mpr ⟨fun h => by injection h, fun h => by show (Sum.inr q.1 : Key) = Sum.inr s; rw [h]⟩
  rw [e2]; rfl
theorem kidsM_args {s : Str} {d : PyData} {r : List PyData} (ha : argsM s = some (r.length + 1)) : kidsM (.tuple (.str s :: d :: r)) = some (d :: r) := by
  refine kidsM_big ⟨?_, ?_, ?_⟩ ha <;> (rintro rfl; revert ha; rw [show argsM _ = none from by decide +kernel]; intro h; cases h)
theorem kidsM_nam {s : Str} {d : PyData} {r : List PyData} (h : (s = "name" ∨ s = "fun") ∧ r.length = 0 ∧ nameM d = true) : kidsM (.tuple (.str s :: d :: r)) = some [] := by
  rw [kidsM_eq, if_neg (fun z => by rcases h.1 with e | e <;> (rw [e] at z; exact absurd z.1 (by decide +kernel))), if_pos h]
theorem kidsM_let {d e : PyData} (h : rowsM d = true) : kidsM (.tuple [.str "let", d, e]) = some ((tupM d).map sndM ++ [e]) := by
  rw [kidsM_eq, if_neg (fun z => w_let.1 z.1), if_neg (fun z => z.1.elim w_let.2.1 w_let.2.2), if_neg (fun z => by rw [args_let] at z; cases z), if_pos ⟨rfl, rfl, h⟩]
theorem kidsM_none {s : Str} {d : PyData} {r : List PyData} (h1 : ¬ (s = "number" ∧ r.length = 0 ∧ smallM d = true)) (h2 : ¬ ((s = "name" ∨ s = "fun") ∧ r.length = 0 ∧ nameM d = true)) (h3 : ¬ (argsM s = some (r.length + 1))) (h4 : ¬ (s = "let" ∧ r.length = 1 ∧ rowsM d = true)) :
    kidsM (.tuple (.str s :: d :: r)) = none := by
  rw [kidsM_eq, if_neg h1, if_neg h2, if_neg h3, if_neg h4]
theorem g_inDK {K : PySem.W.Frag} {w : World} {H : Hp} {Q : VK} {a : Addr} {s : Str} {kvs : List (Key × V)} (h : H a = some (.dK kvs)) (q : Q (.bl (valV kvs (.inr s)).isSome) H) : rInG K w false (.str s) (.ref a) H Q :=
  .inr (.inr (.inl ⟨a, valV kvs (.inr s), rfl, .inl ⟨kvs, .inr s, .of h, rfl, rfl⟩, q⟩))

/-! ### the law's parts of anything -/
theorem pure_linnerX {K : PySem.W.Frag} {w : World} : PureOk 1 spPartsOfX (t_law_innerX K w spIsNameX) 3 := by
  refine ⟨fun vs H Q E ⟨_, _, e, _⟩ => by rw [e]; rfl, ?_⟩
  rintro vs H Q E ⟨v, d, rfl, t, qn, qs⟩
  show t_law_innerX K w _ _ [some v, none, none] H
  unfold t_law_innerX
  walk_at "gg"
  refine g_isiTup t ?_
  walk_at "gg"
  cases d with
  | tuple ds =>
    refine g_F rfl ?_
    obtain ⟨a, xs, rfl, ea, ts⟩ := t.tup_inv
    have hl := ts.length
    walk_at "gg"
    match ds, ts, hl, qn, qs with
    | [], ts, hl, qn, qs =>
      refine g_T (decide_eq_true (by rw [hl]; show (0 : Int) < 2; decide)) ?_
      walk_at "gg"
      exact qn rfl _ (.refl _)
    | [d0], ts, hl, qn, qs =>
      refine g_T (decide_eq_true (by rw [hl]; show (1 : Int) < 2; decide)) ?_
      walk_at "gg"
      refine qn ?_ _ (.refl _)
      cases d0 <;> rfl
    | d0 :: d1 :: r, ts, hl, qn, qs =>
      refine g_F (decide_eq_false (by rw [hl]; simp only [List.length_cons]; omega)) ?_
      obtain ⟨x0, us0, rfl, t0, tsa⟩ := ts.cons_inv
      obtain ⟨x1, us, rfl, t1, tsb⟩ := tsa.cons_inv
      clear tsa ts
      have hlr := tsb.length
      walk_at "gg"
      refine g_isiStr t0 ?_
      walk_at "gg"
      cases d0 with
      | str s =>
        obtain ⟨rfl, hsl⟩ := t0.str_inv
        have hlen : ((V.str s :: x1 :: us).length : Int) = r.length + 2 := by simp only [List.length_cons, hlr]; omega
        clear hl t
        walk_at "gg"
        rename_i dd H0 n0 e0 s0
        refine g_pairs counts9 e0 rfl (by decide) ?_
        rw [counts_merge]
        walk_at "gg"
        rename_i H1 e1 c1
        have s1 : Same H H1 := Same.chg s0 n0 c1
        have ea1 := s1 _ _ ea
        have t11 := t1.mono (Same.tl s1)
        have ts1 := tsb.mono (Same.tl s1)
        clear ea t1 tsb s0 n0 e0 c1
        walk_at "gg"
        refine g_inDK e1 ?_
        rw [counts_val]
        walk_at "gg"
        refine g_cutH (fun H' => H' = H1 ∧ ¬ (argsM s = some (r.length + 1))) (B := ?B1) (fun rest => ?f1) ?b1
        case f1 =>
          cases hn : argsM s with
          | none =>
            refine g_F (by rw [Option.isSome_map, (args_find s).1, hn]; rfl) ?_
            refine g_F rfl ?_
            exact rest H1 ⟨rfl, fun z => by rw [hn] at z; cases z⟩
          | some n =>
            obtain ⟨hv, hn3, hn1⟩ := (args_find s).2 n hn
            refine g_T (by rw [Option.isSome_map, (args_find s).1, hn]; rfl) ?_
            walk_at "gg"
            refine g_ixD (k := .inr s) e1 rfl ((counts_val s).trans hv) ?_
            walk_at "gg"
            by_cases h2 : n = r.length + 1
            · refine g_T (decide_eq_true (by rw [hlen, h2]; omega)) ?_
              walk_at "gg"
              refine g_slT (.of ea1) (not_whole (by simp)) fun p2 H4 n4 e4 s4 => ?_
              rw [cut_tail] at e4
              refine g_listT (.of e4) fun l H5 nl el s5 => ?_
              have s45 := s4.trans s5
              exact qs (d1 :: r) (kidsM_args (by rw [hn, h2])) l _ H5 (s1.free (s4.free nl)) el (.cons (t11.mono (Same.tl s45)) (ts1.mono (Same.tl s45))) (s1.trans s45)
            · refine g_F (decide_eq_false (by rw [hlen]; omega)) ?_
              exact rest H1 ⟨rfl, fun z => by rw [hn] at z; cases z; exact h2 rfl⟩
        rintro H1' ⟨rfl, c1⟩
        walk_at "gg"
        rename_i tp H2 n2 e2 s2
        refine .inl ⟨tp, _, rfl, .inr (.of e2), rfl, rfl, ?_⟩
        rw [inV_two]
        walk_at "gg"
        have s02 := s1.trans s2
        have ea2 := s2 _ _ ea1
        have t12 := t11.mono (Same.tl s2)
        have ts2 := ts1.mono (Same.tl s2)
        clear ea1 t11 ts1 n2 e2
        refine g_cutH (fun H' => Same H H' ∧ Same H2 H' ∧ ¬ ((s = "name" ∨ s = "fun") ∧ r.length = 0 ∧ nameM d1 = true)) (B := ?B2) (fun rest => ?f2) ?b2
        case f2 =>
          by_cases h1 : s = "name" ∨ s = "fun"
          · refine g_T (decide_eq_true h1) ?_
            walk_at "gg"
            by_cases h2 : r.length = 0
            · refine g_T (decide_eq_true (by rw [hlen, h2]; rfl)) ?_
              walk_at "gg"
              refine ⟨x1, d1, rfl, t12, fun H3 s3 => ?_⟩
              walk_at "gg"
              by_cases h3 : nameM d1 = true
              · refine g_T h3 ?_
                walk_at "gg"
                rename_i l H4 n4 e4 s4
                exact qs [] (kidsM_nam ⟨h1, h2, h3⟩) l [] H4 (s02.free (s3.free n4)) e4 .nil (s02.trans (s3.trans s4))
              · refine g_F (by simpa using h3) ?_
                exact rest H3 ⟨s02.trans s3, s3, fun hh => h3 hh.2.2⟩
            · refine g_F (decide_eq_false (by rw [hlen]; omega)) ?_
              refine g_F rfl ?_
              exact rest H2 ⟨s02, .refl _, fun hh => h2 hh.2.1⟩
          · refine g_F (decide_eq_false h1) ?_
            refine g_F rfl ?_
            exact rest H2 ⟨s02, .refl _, fun hh => h1 hh.1⟩
        rintro H3 ⟨s03, s23, c2⟩
        have ea3 := s23 _ _ ea2
        have t13 := t12.mono (Same.tl s23)
        have ts3 := ts2.mono (Same.tl s23)
        clear ea2 t12 ts2 s1 s2 s02 s23 e1
        walk_at "gg"
        refine g_cutH (fun H' => H' = H3 ∧ ¬ (s = "number" ∧ r.length = 0 ∧ smallM d1 = true)) (B := ?B3) (fun rest => ?f3) ?b3
        case f3 =>
          by_cases h1 : s = "number"
          · refine g_T (decide_eq_true h1) ?_
            walk_at "gg"
            by_cases h2 : r.length = 0
            · refine g_T (decide_eq_true (by rw [hlen, h2]; rfl)) ?_
              walk_at "gg"
              refine g_isiInt t13 ?_
              walk_at "gg"
              by_cases h3 : wholeM d1 = true
              · obtain ⟨n, hx, hd⟩ : ∃ n, x1 = V.int n ∧ d1 = .int n := by
                  cases t13 with
                  | int n => exact ⟨n, rfl, rfl⟩
                  | _ => cases h3
                refine g_T (by rw [hd]; rfl) ?_
                walk_at "gg"
                refine g_isiBool t13 ?_
                walk_at "gg"
                refine g_T (by rw [hd]; rfl) ?_
                rw [hx] at ea3
                walk_at "gg"
                refine g_powI ⟨by decide, by decide, by decide⟩ ?_
                refine g_ltI (g_bl ?_)
                have e : decide ((n.natAbs : Int) < 10 ^ Int.toNat 60) = decide (n.natAbs < 10 ^ 60) := by
                  have : (10 : Int) ^ Int.toNat 60 = ((10 ^ 60 : Nat) : Int) := by rfl
                  rw [this]
                  exact decide_eq_decide.mpr Int.ofNat_lt
                rw [e]
                by_cases h4 : n.natAbs < 10 ^ 60
                · refine g_T (decide_eq_true h4) ?_
                  walk_at "gg"
                  rename_i l H4 n4 e4 s4
                  refine qs [] ?_ l [] H4 (s03.free n4) e4 .nil (s03.trans s4)
                  rw [kidsM_eq, if_pos ⟨h1, h2, by rw [hd]; exact decide_eq_true (p := n.natAbs < 10 ^ 60) h4⟩]
                · refine g_F (decide_eq_false h4) ?_
                  walk_at "gg"
                  refine qn (kidsM_none (fun hh => h4 (by have := hh.2.2; rw [hd] at this; exact of_decide_eq_true (p := n.natAbs < 10 ^ 60) this)) c2 c1 (fun hh => absurd (h1.symm.trans hh.1) (by decide +kernel))) _ s03
              · refine g_cutH (fun H' => H' = H3) (B := ?B5) (fun rest5 => ?f5) ?b5
                case f5 =>
                  refine g_ite (fun hi => ?_) (fun hi => ?_)
                  · walk_at "gg"
                    refine g_isiBool t13 ?_
                    walk_at "gg"
                    refine g_F (by cases d1 <;> first | rfl | exact absurd rfl h3 | cases hi) ?_
                    exact rest5 H3 rfl
                  · exact rest5 H3 rfl
                rintro H3' rfl
                exact rest H3' ⟨rfl, fun hh => h3 (by cases d1 <;> first | rfl | cases hh.2.2)⟩
            · refine g_F (decide_eq_false (by rw [hlen]; omega)) ?_
              refine g_F rfl ?_
              exact rest H3 ⟨rfl, fun hh => h2 hh.2.1⟩
          · refine g_F (decide_eq_false h1) ?_
            refine g_F rfl ?_
            exact rest H3 ⟨rfl, fun hh => h1 hh.1⟩
        rintro H3' ⟨rfl, c3⟩
        walk_at "gg"
        by_cases h1 : s = "let"
        · refine g_T (decide_eq_true h1) ?_
          walk_at "gg"
          by_cases h2 : r.length = 1
          · refine g_T (decide_eq_true (by rw [hlen, h2]; rfl)) ?_
            walk_at "gg"
            refine g_isiTup t13 ?_
            walk_at "gg"
            by_cases h3 : isTupM d1 = true
            · refine g_T h3 ?_
              walk_at "gg"
              refine g_chain ?_
              obtain ⟨rs, hrs⟩ : ∃ rs, d1 = .tuple rs := by cases d1 <;> first | exact ⟨_, rfl⟩ | cases h3
              have t13' := t13
              rw [hrs] at t13'
              obtain ⟨ra, rxs, hx1, er, tr⟩ := t13'.tup_inv
              have hrl := tr.length
              rw [hx1] at ea3
              walk_at "gg"
              by_cases h4 : 1 ≤ rs.length
              · refine g_T (decide_eq_true (by omega)) ?_
                walk_at "gg"
                by_cases h5 : rs.length ≤ 4
                · refine g_T (decide_eq_true (by omega)) ?_
                  walk_at "gg"
                  refine g_seqT ?_
                  walk_at "gg"
                  obtain ⟨d2, hr2⟩ : ∃ d2, r = [d2] := by
                    match r, h2 with
                    | [d2], _ => exact ⟨d2, rfl⟩
                  have ts3' := ts3
                  rw [hr2] at ts3'
                  obtain ⟨x2, us4, hus, t2, ts4⟩ := ts3'.cons_inv
                  rw [hus, ts4.nil_inv] at ea3
                  refine for_T (xs := rxs) (fun i σ H' => ∃ y, σ = [some (.ref a), some (.ref dd), y] ∧ Same H3' H' ∧ ∀ d ∈ rs.take i, rowM d = true) (fun i σ H' ⟨_, _, s, _⟩ => s _ _ er) ⟨_, rfl, .refl _, by simp⟩ ?_ ?_
                  · rintro i x σ H4 hx ⟨y, rfl, s4, hrows⟩
                    obtain ⟨dr, hdr, tx⟩ := (tr.mono (Same.tl s4)).get hx
                    have hbad : rowM dr = false → ∀ H', Same H4 H' → Q .non H' := fun hb H' s' => qn (kidsM_none c3 c2 c1 fun hh => by
                      have h6 := hh.2.2
                      rw [hrs] at h6
                      have h6' : (decide (1 ≤ rs.length) && (decide (rs.length ≤ 4) && rs.all rowM)) = true := h6
                      simp only [Bool.and_eq_true, decide_eq_true_iff, List.all_eq_true] at h6'
                      rw [h6'.2.2 dr (List.mem_of_getElem? hdr)] at hb
                      cases hb) H' (s03.trans (s4.trans s'))
                    have hgood : rowM dr = true → ∀ H', Same H4 H' → ∃ y, ([some (.ref a), some (.ref dd), some x] : List (Option V)) = [some (.ref a), some (.ref dd), y] ∧ Same H3' H' ∧ ∀ d ∈ rs.take (i + 1), rowM d = true := fun hb H' s' => ⟨_, rfl, s4.trans s', fun d hd => by
                      rw [List.take_add_one, hdr] at hd
                      rcases List.mem_append.mp hd with hd | hd
                      · exact hrows d hd
                      · have : d = dr := by simpa using hd
                        rw [this]; exact hb⟩
                    walk_at "gg"
                    refine g_isiTup tx ?_
                    walk_at "gg"
                    cases dr with
                    | tuple es =>
                      refine g_F rfl ?_
                      obtain ⟨ra2, ys, rfl, er2, ty⟩ := tx.tup_inv
                      have hyl := ty.length
                      walk_at "gg"
                      match es, ty, hyl, hbad, hgood with
                      | [e1, e2], ty, hyl, hbad, hgood =>
                        refine g_F (by rw [decide_eq_true (by rw [hyl]; rfl)]; rfl) ?_
                        obtain ⟨y1, ys1, rfl, ty1, tya⟩ := ty.cons_inv
                        obtain ⟨y2, ys2, rfl, ty2, tyb⟩ := tya.cons_inv
                        walk_at "gg"
                        refine ⟨y1, e1, rfl, ty1, fun H5 s5 => ?_⟩
                        walk_at "gg"
                        by_cases h6 : nameM e1 = true
                        · refine g_F (by rw [h6]; rfl) ?_
                          walk_at "gg"
                          exact hgood h6 H5 s5
                        · refine g_T (by rw [show nameM e1 = false from by simpa using h6]; rfl) ?_
                          walk_at "gg"
                          exact hbad (show rowM (.tuple [e1, e2]) = false from (by simpa using h6 : nameM e1 = false)) H5 s5
                      | [], ty, hyl, hbad, hgood =>
                        refine g_T (by rw [decide_eq_false (by rw [hyl]; show ¬ ((0 : Int) = 2); decide)]; rfl) ?_
                        walk_at "gg"
                        exact hbad rfl _ (.refl _)
                      | [_], ty, hyl, hbad, hgood =>
                        refine g_T (by rw [decide_eq_false (by rw [hyl]; show ¬ ((1 : Int) = 2); decide)]; rfl) ?_
                        walk_at "gg"
                        exact hbad rfl _ (.refl _)
                      | _ :: _ :: _ :: _, ty, hyl, hbad, hgood =>
                        refine g_T (by rw [decide_eq_false (by rw [hyl]; simp only [List.length_cons]; omega)]; rfl) ?_
                        walk_at "gg"
                        exact hbad rfl _ (.refl _)
                    | _ =>
                      refine g_T rfl ?_
                      walk_at "gg"
                      exact hbad rfl _ (.refl _)
                  · rintro σ H4 ⟨y, rfl, s4, hrows⟩
                    have hall : ∀ d ∈ rs, rowM d = true := by
                      rw [hrl, List.take_length] at hrows
                      exact hrows
                    have hk : kidsM (.tuple (.str s :: d1 :: r)) = some (rs.map sndM ++ [d2]) := by
                      rw [h1, hr2, kidsM_let (by rw [hrs]; show (decide (1 ≤ rs.length) && (decide (rs.length ≤ 4) && rs.all rowM)) = true; rw [decide_eq_true h4, decide_eq_true h5, List.all_eq_true.mpr hall]; rfl), hrs]; rfl
                    have qs' := qs _ hk
                    have ea4 := s4 _ _ ea3
                    have er4 := s4 _ _ er
                    have tr4 := tr.mono (Same.tl s4)
                    have t24 := t2.mono (Same.tl s4)
                    have s04 := s03.trans s4
                    clear qn qs ea3 er tr t2 t13 s03 s4 ts3 t13' ts3' ts4
                    walk_at "gg"
                    refine g_seqT ?_
                    walk_at "gg"
                    refine lc_gqT er4 (by omega) tr4 sndM ?_ ?_
                    · intro x d H' Nx hdm tx hN
                      have hrow := hall d hdm
                      unfold rowM at hrow
                      split at hrow
                      · rename_i e1 e2
                        obtain ⟨ra2, ys, rfl, er2, ty⟩ := tx.tup_inv
                        obtain ⟨y1, ys, rfl, ty1, ty⟩ := ty.cons_inv
                        obtain ⟨y2, ys, rfl, ty2, ty⟩ := ty.cons_inv
                        walk_at "gg"
                        refine ⟨rfl, ?_⟩
                        walk_at "gg"
                        exact hN y2 _ (.refl _) ty2
                      · cases hrow
                    · intro D ys H5 nD eD tys s5
                      have hyl := tys.length
                      rw [List.length_map] at hyl
                      walk_at "gg"
                      rename_i l6 H6 n6 e6 s6 l7 H7 n7 e7 s7
                      have s67 := s6.trans s7
                      exact qs' l7 _ H7 (s04.free (s5.free (s6.free n7))) e7 ((tys.mono (Same.tl s67)).append (.one (t24.mono (Same.tl (s5.trans s67))))) (s04.trans (s5.trans s67))
                · refine g_F (decide_eq_false (by omega)) ?_
                  walk_at "gg"
                  exact qn (kidsM_none c3 c2 c1 fun hh => by
                    have h6 := hh.2.2
                    rw [hrs] at h6
                    have h6' : (decide (1 ≤ rs.length) && (decide (rs.length ≤ 4) && rs.all rowM)) = true := h6
                    simp only [Bool.and_eq_true, decide_eq_true_iff] at h6'
                    exact h5 h6'.2.1) _ s03
              · refine g_F (decide_eq_false (by omega)) ?_
                walk_at "gg"
                exact qn (kidsM_none c3 c2 c1 fun hh => by
                    have h6 := hh.2.2
                    rw [hrs] at h6
                    have h6' : (decide (1 ≤ rs.length) && (decide (rs.length ≤ 4) && rs.all rowM)) = true := h6
                    simp only [Bool.and_eq_true, decide_eq_true_iff] at h6'
                    exact h4 h6'.1) _ s03
            · refine g_F (by simpa using h3) ?_
              walk_at "gg"
              exact qn (kidsM_none c3 c2 c1 fun hh => h3 (by have := hh.2.2; cases d1 <;> first | rfl | cases this)) _ s03
          · refine g_F (decide_eq_false (by rw [hlen]; omega)) ?_
            walk_at "gg"
            exact qn (kidsM_none c3 c2 c1 fun hh => h2 hh.2.1) _ s03
        · refine g_F (decide_eq_false h1) ?_
          walk_at "gg"
          exact qn (kidsM_none c3 c2 c1 fun hh => h1 hh.1) _ s03
      | _ => exact qn rfl _ (.refl _)
  | _ => exact qn rfl _ (.refl _)

/-! ### the law's bodies, functions -/
def runQ : Nat → Nat → List (PyData × Nat) → Bool
  | _, _, [] => true
  | 0, _, _ :: _ => false
  | f + 1, many, (d, deep) :: st => match kidsM d with
    | none => false
    | some ks => if deep > 12 ∨ many + 1 > 60 then false else runQ f (many + 1) (st ++ ks.map fun k => (k, deep + 1))
theorem runQ_decode : ∀ (f many : Nat) (st : List (PyData × Nat)), many ≤ 60 → runQ f many st = true → ∃ qs : List (Part × Nat), qs.map gq2 = st ∧ (∀ q ∈ qs, q.1.shape ∧ q.1.deep + q.2 ≤ 13) ∧ many + dsz qs ≤ 60
  | f, many, [], hm, _ => ⟨[], rfl, fun q hq => (List.not_mem_nil hq).elim, hm⟩
  | 0, many, _ :: _, hm, h => by cases h
  | f + 1, many, (d, k) :: st, hm, h => by
    have h' : (match kidsM d with
      | none => false
      | some ks => if k > 12 ∨ many + 1 > 60 then false else runQ f (many + 1) (st ++ ks.map fun x => (x, k + 1))) = true := h
    cases hk : kidsM d with
    | none => rw [hk] at h'; cases h'
    | some ks =>
      rw [hk] at h'
      dsimp only at h'
      by_cases hc : k > 12 ∨ many + 1 > 60
      · rw [if_pos hc] at h'; cases h'
      rw [if_neg hc] at h'
      have hk12 : k ≤ 12 := by omega
      have hm60 : many + 1 ≤ 60 := by omega
      obtain ⟨qs, e, hq, hs⟩ := runQ_decode f (many + 1) _ hm60 h'
      obtain ⟨qs2, qs1, rfl, e2, e3⟩ := List.map_eq_append_iff.mp e
      have e4 : ks = (qs1.map (·.1)).map Part.data := by
        have := congrArg (List.map Prod.fst) e3
        rw [List.map_map, List.map_map] at this
        rw [List.map_map]
        simpa [Function.comp_def, gq2] using this.symm
      have e5 : ∀ q ∈ qs1, q.2 = k + 1 := by
        intro q hq
        have := List.mem_map_of_mem (f := gq2) hq
        rw [e3] at this
        obtain ⟨x, _, hx⟩ := List.mem_map.mp this
        exact (congrArg Prod.snd hx).symm
      obtain ⟨p, hp1, hp2, hp3⟩ := kidsM_decode hk e4 fun p hp => by
        obtain ⟨q, hqm, rfl⟩ := List.mem_map.mp hp
        exact (hq q (List.mem_append.mpr (.inr hqm))).1
      refine ⟨(p, k) :: qs2, by rw [List.map_cons, e2]; show (p.data, k) :: st = _; rw [hp1], fun q hqm => ?_, ?_⟩
      · rcases List.mem_cons.mp hqm with rfl | hqm
        · refine ⟨hp2, ?_⟩
          show p.deep + k ≤ 13
          rw [p.mxd_kids, hp3]
          have : mxd (qs1.map (·.1)) ≤ 12 - k := by
            refine mxd_le fun x hx => ?_
            obtain ⟨q, hqm, rfl⟩ := List.mem_map.mp hx
            have h1 := (hq q (List.mem_append.mpr (.inr hqm))).2
            have h2 := e5 q hqm
            omega
          omega
        · exact hq q (List.mem_append.mpr (.inl hqm))
      · show many + (p.size + dsz qs2) ≤ 60
        rw [dsz_app] at hs
        have : p.size = 1 + dsz qs1 := by
          rw [p.sz_kids, hp3]
          congr 1
          clear hs hq e e3 e4 e5 hp3
          induction qs1 with
          | nil => rfl
          | cons q qs ih => obtain ⟨a, b⟩ := q; show a.size + sz _ = a.size + dsz qs; rw [ih]
        omega
theorem runQ_true : ∀ (f many : Nat) (qs : List (Part × Nat)), f + many = 61 → (∀ q ∈ qs, q.1.shape ∧ q.1.deep + q.2 ≤ 13) → many + dsz qs ≤ 60 → runQ f many (qs.map gq2) = true
  | f, many, [], _, _, _ => by cases f <;> rfl
  | 0, many, q :: qs, h, _, hs => by omega
  | f + 1, many, (p, k) :: qs, h, hq, hs => by
    have hs' : many + (p.size + dsz qs) ≤ 60 := hs
    have hp := hq (p, k) List.mem_cons_self
    have hd : p.deep + k ≤ 13 := hp.2
    have hmx := p.mxd_kids
    have hsz := p.sz_kids
    show (match kidsM p.data with
      | none => false
      | some ks => if k > 12 ∨ many + 1 > 60 then false else runQ f (many + 1) (qs.map gq2 ++ ks.map fun x => (x, k + 1))) = true
    rw [kidsM_data hp.1]
    dsimp only
    rw [if_neg (by omega)]
    have e : (qs.map gq2 ++ (p.kids.map Part.data).map fun x => (x, k + 1)) = (qs ++ p.kids.map fun x => (x, k + 1)).map gq2 := by
      rw [List.map_append, List.map_map, List.map_map]; rfl
    rw [e]
    refine runQ_true f (many + 1) _ (by omega) (fun q hqm => ?_) ?_
    · rcases List.mem_append.mp hqm with hqm | hqm
      · exact hq q (List.mem_cons_of_mem _ hqm)
      · obtain ⟨x, hx, rfl⟩ := List.mem_map.mp hqm
        have := mxd_mem hx
        exact ⟨hp.1.kids x hx, by show x.deep + (k + 1) ≤ 13; omega⟩
    · rw [dsz_app, dsz_map]
      omega
theorem runQ_body (d : PyData) : runQ 61 0 [(d, 1)] = bodyM d := by
  rw [Bool.eq_iff_iff]
  constructor
  · intro h
    obtain ⟨qs, e, hq, hs⟩ := runQ_decode 61 0 [(d, 1)] (by omega) h
    obtain ⟨q, qs', rfl, e1, e2⟩ := List.map_eq_cons_iff.mp e
    obtain ⟨p, k⟩ := q
    have h1 : p.data = d := congrArg Prod.fst e1
    have h2 : k = 1 := congrArg Prod.snd e1
    have h3 := hq (p, k) List.mem_cons_self
    have h4 : p.deep + k ≤ 13 := h3.2
    have h5 : 0 + (p.size + dsz qs') ≤ 60 := hs
    rw [← h1]
    exact bodyM_true ⟨h3.1, by omega, by omega⟩
  · intro h
    obtain ⟨p, rfl, hb⟩ := bodyM_decode h
    exact runQ_true 61 0 [(p, 1)] rfl (fun q hq => by rw [List.mem_singleton.mp hq]; exact ⟨hb.shape, by show p.deep + 1 ≤ 13; have := hb.deep; omega⟩) (by show 0 + (p.size + 0) ≤ 60; have := hb.size; omega)
theorem pure_lisbodyX {K : PySem.W.Frag} {w : World} : PureOk 1 spIsBodyX (t_law_is_body K w spPartsOfX) 7 := by
  refine ⟨fun vs H Q E ⟨_, _, e, _⟩ => by rw [e]; rfl, ?_⟩
  rintro vs H Q E ⟨v, d, rfl, t, q⟩
  show t_law_is_body K w _ _ [some v, none, none, none, none, none, none] H
  unfold t_law_is_body
  rw [← runQ_body] at q
  walk_at "gg"
  rename_i a1 H1 n1 e1 s1 pl H2 n2 e2 s2
  have npl : H pl = none := s1.free n2
  refine while_any (fun m σ H' => ∃ (x3 x4 x5 x6 : Option V) (many : Nat) (vs : List V) (st : List (PyData × Nat)), σ = [some v, some (.ref pl), some (.int many), x3, x4, x5, x6] ∧ H' pl = some (.lst vs) ∧ Gqs H' vs (st.map gpd) ∧
      many ≤ 60 ∧ vs.length ≤ 5 * many + 1 ∧ many ≤ vs.length ∧ runQ (61 - many) many (st.drop many) = runQ 61 0 [(d, 1)] ∧ m = 61 - many ∧ Same H H') 61
    ⟨none, none, none, none, 0, [.ref a1], [(d, 1)], rfl, e2, .cons (.tup (s2 _ _ e1) (.cons (t.mono (Same.tl (s1.trans s2))) (.one (.int _)))) .nil, by omega, by simp, by simp, rfl, rfl, s1.trans s2⟩ ?_
  rintro m σ H3 ⟨x3, x4, x5, x6, many, vs, st, rfl, hp, tp, hm60, hvl, hmv, hrun, rfl, s3⟩
  have hsl : vs.length = st.length := by rw [tp.length, List.length_map]
  walk_at "gg"
  by_cases hend : many < vs.length
  rotate_left
  · refine g_F (decide_eq_false (by omega)) ?_
    walk_at "gg"
    have e : runQ 61 0 [(d, 1)] = true := by rw [← hrun, List.drop_of_length_le (by omega)]; cases 61 - many <;> rfl
    rw [e] at q
    exact q _ s3
  refine g_T (decide_eq_true (by omega)) ?_
  refine g_turn ?_
  obtain ⟨⟨d1, k1⟩, hst⟩ : ∃ q, st[many]? = some q := ⟨_, List.getElem?_eq_getElem (by omega)⟩
  obtain ⟨v1, hv1⟩ : ∃ q, vs[many]? = some q := ⟨_, List.getElem?_eq_getElem (by omega)⟩
  obtain ⟨dd1, hdd1, t1⟩ := tp.get hv1
  rw [List.getElem?_map, hst] at hdd1
  cases hdd1
  have hdrop : st.drop many = (d1, k1) :: st.drop (many + 1) := by
    obtain ⟨h1, h2⟩ := List.getElem?_eq_some_iff.mp hst
    rw [List.drop_eq_getElem_cons h1, h2]
  rw [hdrop] at hrun
  obtain ⟨a5, us, rfl, ea5, tu⟩ := Gq.tup_inv (ds := [d1, .int k1]) t1
  obtain ⟨u1, us, rfl, tu1, tu⟩ := tu.cons_inv
  obtain ⟨u2, us, rfl, tu2, tu⟩ := tu.cons_inv
  rw [tu.nil_inv] at ea5
  have hu2 : u2 = .int k1 := by cases tu2; rfl
  subst hu2
  clear tu tu2 t1
  walk_at "gg"
  refine g_ixL (.of hp) (v := .ref a5) (atI_of (by omega) (by rw [Int.toNat_natCast]; exact hv1)) ?_
  refine g_un2 ea5 ?_
  walk_at "gg"
  have hr2 : runQ (61 - many) many ((d1, k1) :: st.drop (many + 1)) = match kidsM d1 with
      | none => false
      | some ks => if k1 > 12 ∨ many + 1 > 60 then false else runQ (60 - many) (many + 1) (st.drop (many + 1) ++ ks.map fun k => (k, k1 + 1)) := by
    have e : 61 - many = (60 - many) + 1 := by omega
    rw [e]; rfl
  rw [hr2] at hrun
  refine ⟨u1, d1, rfl, tu1, fun hno H7 s7 => ?_, fun ks hks l us H7 nl7 el7 tk7 s7 => ?_⟩
  · rw [hno] at hrun
    have hrun' : false = runQ 61 0 [(d, 1)] := hrun
    walk_at "gg"
    refine .inl ⟨rfl, ?_⟩
    walk_at "gg"
    rw [← hrun'] at q
    exact q _ (s3.trans s7)
  rw [hks] at hrun
  dsimp only at hrun
  have hkl := kidsM_len hks
  have hul := tk7.length
  have e75 := s7 _ _ hp
  have tp7' := tp.mono (Same.tl s7)
  have s07 := s3.trans s7
  clear tu1 ea5 s3 s7 hp
  walk_at "gg"
  refine .inl ⟨rfl, ?_⟩
  walk_at "gg"
  by_cases h12 : k1 > 12
  · rw [if_pos (.inl h12)] at hrun
    refine g_T (decide_eq_true (by omega)) ?_
    walk_at "gg"
    rw [← hrun] at q
    exact q _ s07
  refine g_F (decide_eq_false (by omega)) ?_
  walk_at "gg"
  by_cases h60 : many + 1 > 60
  · rw [if_pos (.inr h60)] at hrun
    refine g_T (decide_eq_true (by omega)) ?_
    walk_at "gg"
    rw [← hrun] at q
    exact q _ s07
  refine g_F (decide_eq_false (by omega)) ?_
  rw [if_neg (fun h => h.elim h12 h60)] at hrun
  walk_at "gg"
  refine g_seqL ?_
  walk_at "gg"
  refine lc_gqL el7 (by omega) tk7 (fun k => gpd (k, k1 + 1)) ?_ ?_
  · intro x dx H' Nx hx tx hN
    walk_at "gg"
    refine ⟨rfl, ?_⟩
    walk_at "gg"
    rename_i a8 H8 n8 e8 s8
    exact hN _ _ s8 (.tup e8 (.cons (tx.mono (Same.tl s8)) (.one (.int _))))
  · intro D ys H8 nD eD tys s8
    have hyl := tys.length
    rw [List.length_map] at hyl
    have e85 := s8 _ _ e75
    walk_at "gg"
    refine g_extend e85 eD (by show _ ≤ 16777216; omega) ?_
    walk_at "gg"
    rename_i H9 e9 c9
    have k89 : Tl H8 H9 := c9.tl e85 e9
    refine ⟨61 - (many + 1), by omega, _, _, _, _, many + 1, _, st ++ ks.map fun k => (k, k1 + 1), rfl, e9, ?_, by omega, ?_, ?_, ?_, rfl, Same.chg (s07.trans s8) npl c9⟩
    · rw [List.map_append, List.map_map]
      exact Gqs.append ((tp7'.mono (Same.tl s8)).mono k89) (tys.mono k89)
    · rw [List.length_append]; omega
    · rw [List.length_append]; omega
    · rw [show 61 - (many + 1) = 60 - many from by omega, List.drop_append_of_le_length (by omega)]; exact hrun
theorem pure_lisfunctionX {K : PySem.W.Frag} {w : World} : PureOk 1 spIsFunctionX (t_law_is_function K w spIsNameX spIsBodyX) 2 := by
  refine ⟨fun vs H Q E ⟨_, _, e, _⟩ => by rw [e]; rfl, ?_⟩
  rintro vs H Q E ⟨v, d, rfl, t, q⟩
  show t_law_is_function K w _ _ _ [some v, none] H
  unfold t_law_is_function
  walk_at "gg"
  refine g_isiTup t ?_
  walk_at "gg"
  cases d with
  | tuple ds =>
    refine g_F rfl ?_
    obtain ⟨a, xs, rfl, ea, ts⟩ := t.tup_inv
    have hl := ts.length
    clear t
    walk_at "gg"
    match ds, ts, hl, q with
    | [d0, d1, d2], ts, hl, q =>
      refine g_F (by rw [decide_eq_true (by rw [hl]; rfl)]; rfl) ?_
      obtain ⟨x0, us0, rfl, t0, tsa⟩ := ts.cons_inv
      obtain ⟨x1, us1, rfl, t1, tsb⟩ := tsa.cons_inv
      obtain ⟨x2, us2, rfl, t2, tsc⟩ := tsb.cons_inv
      rw [tsc.nil_inv] at ea
      clear tsa tsb tsc ts
      have hq : ∀ H', Same H H' → ∀ b : Bool, b = functionM (.tuple [d0, d1, d2]) → Q (.bl b) H' := fun H' s' b e => e ▸ q H' s'
      walk_at "gg"
      refine ⟨x0, d0, rfl, t0, fun H1 s1 => ?_⟩
      have ea1 := s1 _ _ ea
      have t11 := t1.mono (Same.tl s1)
      have t21 := t2.mono (Same.tl s1)
      clear ea t0 t1 t2
      walk_at "gg"
      by_cases h0 : nameM d0 = true
      rotate_left
      · have h0' : nameM d0 = false := by simpa using h0
        refine g_T (by rw [h0']; rfl) ?_
        walk_at "gg"
        refine hq H1 s1 _ ?_
        cases d1 with
        | tuple ths => show false = (nameM d0 && _); rw [h0', Bool.false_and]
        | _ => rfl
      refine g_F (by rw [h0]; rfl) ?_
      walk_at "gg"
      refine ⟨x2, d2, rfl, t21, fun H2 s2 => ?_⟩
      have ea2 := s2 _ _ ea1
      have t12 := t11.mono (Same.tl s2)
      have s02 := s1.trans s2
      clear ea1 t11 t21 s1 s2
      walk_at "gg"
      by_cases hb : bodyM d2 = true
      rotate_left
      · have hb' : bodyM d2 = false := by simpa using hb
        refine g_T (by rw [hb']; rfl) ?_
        walk_at "gg"
        refine hq H2 s02 _ ?_
        cases d1 with
        | tuple ths => show false = (nameM d0 && (decide (ths.length ≤ 4) && (ths.all nameM && bodyM d2))); rw [hb', Bool.and_false, Bool.and_false, Bool.and_false]
        | _ => rfl
      refine g_F (by rw [hb]; rfl) ?_
      walk_at "gg"
      refine g_isiTup t12 ?_
      walk_at "gg"
      cases d1 with
      | tuple ths =>
        refine g_F rfl ?_
        obtain ⟨b, ys, rfl, eb, ty⟩ := t12.tup_inv
        have hyl := ty.length
        have hfm : functionM (.tuple [d0, .tuple ths, d2]) = (decide (ths.length ≤ 4) && ths.all nameM) := by
          show (nameM d0 && (decide (ths.length ≤ 4) && (ths.all nameM && bodyM d2))) = _
          rw [h0, hb, Bool.true_and, Bool.and_true]
        rw [hfm] at hq
        walk_at "gg"
        by_cases h4 : ths.length ≤ 4
        · refine g_F (decide_eq_false (by omega)) ?_
          rw [decide_eq_true h4, Bool.true_and] at hq
          walk_at "gg"
          refine g_seqT ?_
          walk_at "gg"
          refine lc_sift (K := K) ys.length (fun i => match ths[i]? with | some d => !nameM d | none => false) (fun i H' hi s => ⟨_, _, .of (s _ _ eb), List.getElem?_eq_getElem hi⟩) (fun H' s => ⟨_, .of (s _ _ eb), Nat.le_refl _⟩) (by omega) ?_ ?_
          · rintro i x H' H'' Na Nb hi s ⟨rfl, hx⟩ hA hB
            obtain ⟨dn, hdn, tn⟩ := (ty.mono (Same.tl s)).get (hx _ (.of (s _ _ eb)))
            rw [hdn] at hA hB
            walk_at "gg"
            refine ⟨rfl, ?_⟩
            walk_at "gg"
            refine ⟨x, dn, rfl, tn, fun H5 s5 => ?_⟩
            walk_at "gg"
            refine g_ite (fun h => ?_) (fun h => ?_)
            · walk_at "gg"
              exact hA _ _ h s5
            · exact hB _ h s5
          · intro D zs H' nD eD hzs s
            walk_at "gg"
            rename_i l5 H5 n5 e5 s5
            refine hq H5 (s02.trans (s.trans s5)) _ ?_
            rw [hzs, hyl, range_all ths nameM _ (fun i d hd => by rw [hd]; simp)]
        · refine g_T (decide_eq_true (by omega)) ?_
          walk_at "gg"
          exact hq H2 s02 _ (by rw [decide_eq_false h4]; rfl)
      | _ =>
        refine g_T rfl ?_
        walk_at "gg"
        exact hq H2 s02 _ rfl
    | [], ts, hl, q =>
      refine g_T (by rw [decide_eq_false (by rw [hl]; show ¬ ((0 : Int) = 3); decide)]; rfl) ?_
      walk_at "gg"
      exact q H (.refl _)
    | [_], ts, hl, q =>
      refine g_T (by rw [decide_eq_false (by rw [hl]; show ¬ ((1 : Int) = 3); decide)]; rfl) ?_
      walk_at "gg"
      exact q H (.refl _)
    | [_, d1], ts, hl, q =>
      refine g_T (by rw [decide_eq_false (by rw [hl]; show ¬ ((2 : Int) = 3); decide)]; rfl) ?_
      walk_at "gg"
      have := q H (.refl _)
      cases d1 <;> exact this
    | _ :: d1 :: _ :: _ :: _, ts, hl, q =>
      refine g_T (by rw [decide_eq_false (by rw [hl]; simp only [List.length_cons]; omega)]; rfl) ?_
      walk_at "gg"
      have := q H (.refl _)
      cases d1 <;> exact this
  | _ =>
    refine g_T rfl ?_
    walk_at "gg"
    exact q H (.refl _)

/-! ### the law's own look at names -/
theorem Rows.rn_parts : ∀ r : Rows, r.rowNames = r.parts.flatMap Part.rowNames
  | .nil => rfl
  | .cons x a r => by
    show a.rowNames ++ r.rowNames = (a :: r.parts).flatMap Part.rowNames
    rw [List.flatMap_cons, Rows.rn_parts r]
theorem kids_rn {p : Part} : p.rowNames = nmL p ++ p.kids.flatMap Part.rowNames := by
  cases p with
  | letp r a =>
    show r.names ++ (r.rowNames ++ a.rowNames) = r.names ++ (r.parts ++ [a]).flatMap Part.rowNames
    rw [List.flatMap_append, Rows.rn_parts r, List.flatMap_cons, List.flatMap_nil, List.append_nil]
  | two k a b => show _ = [] ++ [a, b].flatMap Part.rowNames; simp [Part.rowNames]
  | whn a b c => show _ = [] ++ [a, b, c].flatMap Part.rowNames; simp [Part.rowNames]
  | one k a => show _ = [] ++ [a].flatMap Part.rowNames; simp [Part.rowNames]
  | num n => rfl
  | name n => rfl
  | fn n => rfl
  | shut a => rfl
/-- the kids by the law's inner -/
theorem inner_kids {K : PySem.W.Frag} {H : Hp} {v : V} {p : Part} {Q : VK} {E : XK} (t : Tp H v p.data) (hs : p.shape) (q : ∀ (l : Addr) (us : List V) (H' : Hp), H l = none → H' l = some (.lst us) → Tps H' us (p.kids.map Part.data) → Same H H' → Q (.ref l) H') : spPartsOfX ([v] ++ []) H Q E := by
  refine ⟨v, p.data, rfl, t.gq hs.sh, fun hn => ?_, fun ks hk l us H' nl el tk s => ?_⟩
  · rw [kidsM_data hs] at hn; cases hn
  · rw [kidsM_data hs] at hk
    cases hk
    exact q l us H' nl el (tk.tp (tpsB_all fun d hd => by obtain ⟨p2, _, rfl⟩ := List.mem_map.mp hd; exact p2.tpB)) s
def spLets (m : Nat) : Sp := fun vs H Q _ => ∃ (v : V) (p : Part), vs = [v] ∧ Tp H v p.data ∧ p.shape ∧ p.deep ≤ m ∧ p.size ≤ 60 ∧ ∀ (l : Addr) (H' : Hp), H l = none → H' l = some (.lst (p.rowNames.map V.str)) → Same H H' → Q (.ref l) H'
theorem rows_names {K : PySem.W.Frag} {g : TG} {te : TE} {vs : List Nat} {σ : L2.St} {H1 : Hp} {ra : Addr} {rs : List V} {r : Rows} {Qd : Addr → Hp → Prop} (er : H1 ra = some (.tup rs)) (tr : Tps H1 rs r.datas) (hl : r.names.length ≤ 4)
    (hs : ∀ (a2 : Addr) (nm : Str) (u : V) H' (Nx : V → Hp → Prop), H' a2 = some (.tup [.str nm, u]) → (∀ H4, Same H' H4 → Nx (.str nm) H4) → g (.ref a2) (wipe σ vs) H' fun σ2 H2 => wipe σ2 vs = wipe σ vs ∧ te σ2 H2 Nx)
    (hd : ∀ D H', Fr H1 D → H' D = some (.lst (r.names.map V.str)) → Same H1 H' → Qd D H') : LcR (Itt K ra) g tYes te vs σ H1 Qd := by
  have hrl : rs.length = r.names.length := by rw [tr.length, r.len, Rows.list_names, Rows.list_parts, List.length_map, List.length_map]
  refine lc_mapT er (by omega) (fun i y H' => ∃ nm, r.names[i]? = some nm ∧ y = .str nm) (fun i y H H' k h => h) ?_ ?_
  · intro j y H' Nx hy s hN
    obtain ⟨d, hd, ty⟩ := (tr.mono (Same.tk s)).get hy
    obtain ⟨nm, p2, hnm, hp2, rfl⟩ := Rows.get hd
    obtain ⟨a2, u1, u2, rfl, ea2, tn, tp⟩ := ty.two
    rw [tn.str_inv] at ea2
    exact hs a2 nm u2 H' Nx ea2 fun H4 s4 => hN _ _ s4 ⟨nm, hnm, rfl⟩
  · intro D ys H2 nD eD hys hF s2
    have hys2 : ys = r.names.map V.str := by
      refine List.ext_getElem? fun i => ?_
      cases e : ys[i]? with
      | none =>
        rw [List.getElem?_eq_none_iff] at e
        rw [List.getElem?_eq_none (by rw [List.length_map]; omega)]
      | some y =>
        obtain ⟨nm, hq, rfl⟩ := hF i y e
        rw [List.getElem?_map, hq]
        rfl
    subst hys2
    exact hd D H2 nD eD s2
theorem flat_lenG {α : Type} (f : Part → List α) {ps : List Part} (i : Nat) : ((ps.take i).flatMap f).length ≤ (ps.flatMap f).length := by
  have h : ps.flatMap f = (ps.take i).flatMap f ++ (ps.drop i).flatMap f := by rw [← List.flatMap_append, List.take_append_drop]
  rw [h, List.length_append]
  omega
theorem pure_lets {K : PySem.W.Frag} {w : World} {m : Nat} : PureOk 1 (spLets (m + 1)) (t_law_lets K w spPartsOfX (spLets m)) 4 := by
  refine ⟨fun vs H Q E ⟨_, _, e, _⟩ => by rw [e]; rfl, ?_⟩
  rintro vs H Q E ⟨v, p, rfl, t, hs, hdp, hz, q⟩
  show t_law_lets K w _ _ _ [some v, none, none, none] H
  unfold t_law_lets
  have hdk := p.mxd_kids
  have hsk := p.sz_kids
  have hrs := p.rn_size
  have hkr := kids_rn (p := p)
  have hkl := congrArg List.length hkr
  rw [List.length_append] at hkl
  obtain ⟨a, xs, rfl, ea, txs⟩ := t.part
  walk_at "gg"
  rename_i l0 H0 n0 e0 s0
  refine g_cutA (fun l1 H1 => H1 l1 = some (.lst ((nmL p).map V.str)) ∧ Same H H1 ∧ H l1 = none) (B := ?B) (fun rest => ?f) ?b
  case f =>
    by_cases hw : p.word = "let"
    · refine g_T (decide_eq_true hw) ?_
      obtain ⟨r, b, rfl⟩ := word_let hw
      obtain ⟨x5, r5, rfl, t5, tr5⟩ := Tps.cons_inv (show Tps H xs [.tuple r.datas, b.data] from txs)
      obtain ⟨x6, r6, rfl, t6, tr6⟩ := tr5.cons_inv
      rw [tr6.nil_inv] at ea
      have ea' : H a = some (.tup [.str "let", x5, x6]) := ea
      obtain ⟨ra, rs, rfl, er, tr⟩ := t5.tup_inv
      refine g_asg (g_lc (g_seqT ?_))
      walk_at "gg"
      refine rows_names (s0 _ _ er) (tr.mono (Same.tk s0)) hs.1 ?_ ?_
      · intro a2 nm u H' Nx ea2 hN
        walk_at "gg"
        refine ⟨rfl, ?_⟩
        walk_at "gg"
        exact hN _ (.refl _)
      · intro D H2 nD eD s2
        refine g_name rfl ?_
        exact rest D H2 ⟨eD, s0.trans s2, s0.free nD⟩
    · refine g_F (decide_eq_false hw) ?_
      exact rest l0 H0 ⟨by rw [nmL_no hw]; exact e0, s0, n0⟩
  rintro l1 H1 ⟨e1, s1, n1⟩
  have t1 := t.mono (Same.tk s1)
  walk_at "gg"
  refine g_seqL ?_
  walk_at "gg"
  refine inner_kids (K := K) t1 hs fun lk us H2 nk ek tk s2 => ?_
  refine g_isL (.of ek) ?_
  have hul : us.length = p.kids.length := by rw [tk.length, List.length_map]
  refine for_L (xs := us) (fun i σ H' => ∃ l y, σ = [some (.ref a), some (.ref l), none, y] ∧ H' l = some (.lst ((nmL p ++ (p.kids.take i).flatMap Part.rowNames).map V.str)) ∧ H l = none ∧ Same H2 H') (fun i σ H' ⟨_, _, _, _, _, s⟩ => s _ _ ek)
    ⟨l1, _, rfl, by rw [List.take_zero, List.flatMap_nil, List.append_nil]; exact s2 _ _ e1, n1, .refl _⟩ ?_ ?_
  · rintro i x σ H3 hx ⟨l, y, rfl, e3, n3, s3⟩
    obtain ⟨d, hd, tx⟩ := tk.get hx
    rw [List.getElem?_map] at hd
    obtain ⟨p2, hp2, rfl⟩ := Option.map_eq_some_iff.mp hd
    have hm2 := List.mem_of_getElem? hp2
    have := mxd_mem hm2
    have := sz_mem hm2
    have hf1 := flat_lenG Part.rowNames (ps := p.kids) (i + 1)
    have htk : (p.kids.take (i + 1)).flatMap Part.rowNames = (p.kids.take i).flatMap Part.rowNames ++ p2.rowNames := by
      rw [List.take_add_one, hp2, List.flatMap_append]
      show _ ++ (p2.rowNames ++ []) = _
      rw [List.append_nil]
    rw [htk, List.length_append] at hf1
    walk_at "gg"
    refine ⟨x, p2, rfl, tx.mono (Same.tk s3), hs.kids p2 hm2, by omega, by omega, fun l4 H4 n4 e4 s4 => ?_⟩
    refine g_addL (s4 _ _ e3) e4 (by simp only [List.length_map, List.length_append]; show _ ≤ 16777216; omega) ?_
    walk_at "gg"
    rename_i l5 H5 n5 e5 s5
    refine ⟨l5, _, rfl, ?_, s1.free (s2.free (s3.free (s4.free n5))), s3.trans (s4.trans s5)⟩
    rw [e5, htk]
    simp only [List.map_append, List.append_assoc]
  · rintro σ H3 ⟨l, y, rfl, e3, n3, s3⟩
    rw [hul, List.take_length, ← hkr] at e3
    walk_at "gg"
    exact q l H3 n3 e3 (s1.trans (s2.trans s3))
mutual
theorem odd_nameP {fs : List Str} {x : Str} : ∀ (p : Part) (sc : List Str), p.shape → p.odd fs sc = some x → isName x
  | .num n, sc, h, e => by cases e
  | .name y, sc, h, e => by
    have e' : (if y ∈ sc then none else some y) = some x := e
    split at e'
    · cases e'
    · cases e'; exact h
  | .fn y, sc, h, e => by
    have e' : (if y ∈ fs then none else some y) = some x := e
    split at e'
    · cases e'
    · cases e'; exact h
  | .one _ a, sc, h, e => odd_nameP a sc h e
  | .two _ a b, sc, h, e => by
    have e' : (a.odd fs sc).or (b.odd fs sc) = some x := e
    cases ha : a.odd fs sc with
    | some y => rw [ha] at e'; cases e'; exact odd_nameP a sc h.1 ha
    | none => rw [ha, Option.none_or] at e'; exact odd_nameP b sc h.2 e'
  | .whn a b c, sc, h, e => by
    have e' : (a.odd fs sc).or ((b.odd fs sc).or (c.odd fs sc)) = some x := e
    cases ha : a.odd fs sc with
    | some y => rw [ha] at e'; cases e'; exact odd_nameP a sc h.1 ha
    | none =>
      rw [ha, Option.none_or] at e'
      cases hb : b.odd fs sc with
      | some y => rw [hb] at e'; cases e'; exact odd_nameP b sc h.2.1 hb
      | none => rw [hb, Option.none_or] at e'; exact odd_nameP c sc h.2.2 e'
  | .letp r a, sc, h, e => by
    have e' : (r.odd fs (sc ++ r.names)).or (a.odd fs (sc ++ r.names)) = some x := e
    cases ha : r.odd fs (sc ++ r.names) with
    | some y => rw [ha] at e'; cases e'; exact odd_nameR r _ h.2.2.2.1 ha
    | none => rw [ha, Option.none_or] at e'; exact odd_nameP a _ h.2.2.2.2 e'
  | .shut _, sc, h, e => h.elim
theorem odd_nameR {fs : List Str} {x : Str} : ∀ (r : Rows) (sc : List Str), r.shape → r.odd fs sc = some x → isName x
  | .nil, sc, h, e => by cases e
  | .cons _ a r, sc, h, e => by
    have e' : (a.odd fs sc).or (r.odd fs sc) = some x := e
    cases ha : a.odd fs sc with
    | some y => rw [ha] at e'; cases e'; exact odd_nameP a sc h.1 ha
    | none => rw [ha, Option.none_or] at e'; exact odd_nameR r sc h.2 e'
end
theorem Part.odd_name {fs sc : List Str} {x : Str} {p : Part} (h : p.shape) (e : p.odd fs sc = some x) : isName x := by
  exact odd_nameP p sc h e
def spStrange (m : Nat) : Sp := fun vs H Q _ => ∃ (v : V) (kl fl : Addr) (p : Part) (fs sc : List Str), vs = [v, .ref kl, .ref fl] ∧ Tp H v p.data ∧ p.shape ∧ p.deep ≤ m ∧ p.size ≤ 60 ∧ H kl = some (.lst (sc.map V.str)) ∧ H fl = some (.lst (fs.map V.str)) ∧ sc.length + 4 * m ≤ 100 ∧
  ∀ H', Same H H' → Q (.str ((p.odd fs sc).getD "")) H'
/-- the scope of the kids -/
def Part.scope (sc : List Str) : Part → List Str
  | .letp r _ => sc ++ r.names
  | _ => sc
theorem scope_plain {p : Part} {sc : List Str} (hw : plainWord p.word) : p.scope sc = sc := by
  cases p with
  | letp r b => exact absurd (show ("let" : Str) ∈ [("number" : Str), "fun", "let", "name"] from by simp) hw
  | _ => rfl
theorem Part.odd_kids {fs sc : List Str} {p : Part} (h : p.shape) (hw : p.word ≠ "name") (hf : p.word ≠ "fun") : p.odd fs sc = oddL fs (p.scope sc) p.kids := by
  cases p with
  | one k a => show _ = (a.odd fs sc).or none; rw [Option.or_none]; rfl
  | two k a b => show _ = (a.odd fs sc).or ((b.odd fs sc).or none); rw [Option.or_none]; rfl
  | whn a b c => show _ = (a.odd fs sc).or ((b.odd fs sc).or ((c.odd fs sc).or none)); rw [Option.or_none]; rfl
  | shut a => exact h.elim
  | num n => rfl
  | name n => exact absurd rfl hw
  | fn n => exact absurd rfl hf
  | letp r a =>
    show (r.odd fs (sc ++ r.names)).or (a.odd fs (sc ++ r.names)) = oddL fs (sc ++ r.names) (r.parts ++ [a])
    rw [Rows.odd_parts r]
    generalize r.parts = ps
    induction ps with
    | nil => show none.or _ = (a.odd fs (sc ++ r.names)).or none; rw [Option.or_none]; rfl
    | cons x ps ih => show ((x.odd fs (sc ++ r.names)).or (oddL fs (sc ++ r.names) ps)).or _ = (x.odd fs (sc ++ r.names)).or (oddL fs (sc ++ r.names) (ps ++ [a])); rw [Option.or_assoc, ih]
theorem pure_strange {K : PySem.W.Frag} {w : World} {m : Nat} : PureOk 3 (spStrange (m + 1)) (t_law_strange K w spPartsOfX (spStrange m)) 6 := by
  refine ⟨fun vs H Q E ⟨_, _, _, _, _, _, e, _⟩ => by rw [e]; rfl, ?_⟩
  rintro vs H Q E ⟨v, kl, fl, p, fs, sc, rfl, t, hs, hdp, hz, ek, ef, hlen, q⟩
  show t_law_strange K w _ _ _ [some v, some (.ref kl), some (.ref fl), none, none, none] H
  unfold t_law_strange
  have hdk := p.mxd_kids
  have hsk := p.sz_kids
  have hsl : (p.scope sc).length + 4 * m ≤ 100 := by
    cases p with
    | letp r b => have := hs.1; show (sc ++ r.names).length + _ ≤ _; rw [List.length_append]; omega
    | _ => show sc.length + _ ≤ _; omega
  obtain ⟨a, xs, rfl, ea, txs⟩ := t.part
  refine g_cutA (fun k1 H1 => H1 k1 = some (.lst ((p.scope sc).map V.str)) ∧ Same H H1 ∧ p.odd fs sc = oddL fs (p.scope sc) p.kids) (B := ?B) (fun rest => ?f) ?b
  case f =>
    rcases word_cases p with ⟨n, hp⟩ | ⟨x, hp⟩ | ⟨f, hp⟩ | ⟨r, b, hp⟩ | ⟨b, hp⟩ | ⟨hw, hsh⟩
    rotate_left 3
    · obtain ⟨u1, us1, hxs, t1, t2⟩ := Tps.cons_inv (show Tps H xs [.tuple r.datas, b.data] from by rw [hp] at txs; exact txs)
      obtain ⟨u2, us2, hus, t3, t4⟩ := t2.cons_inv
      obtain ⟨ra, rs, hu1, er, tr⟩ := t1.tup_inv
      have ea' : H a = some (.tup [.str "let", .ref ra, u2]) := by rw [hp, hxs, hus, t4.nil_inv, hu1] at ea; exact ea
      have h4 : r.names.length ≤ 4 := by rw [hp] at hs; exact hs.1
      walk_at "gg"
      refine g_seqT ?_
      walk_at "gg"
      refine rows_names er tr h4 ?_ ?_
      · intro a2 nm u H' Nx ea2 hN
        walk_at "gg"
        refine ⟨rfl, ?_⟩
        walk_at "gg"
        exact hN _ (.refl _)
      · intro D H2 nD eD s2
        refine g_addL (s2 _ _ ek) eD (by simp only [List.length_map]; show _ ≤ 16777216; omega) ?_
        walk_at "gg"
        rename_i k3 H3 n3 e3 s3
        refine g_seqL ?_
        walk_at "gg"
        exact rest k3 H3 ⟨by rw [e3, ← List.map_append, hp]; rfl, s2.trans s3, Part.odd_kids hs (by rw [hp]; show ("let" : Str) ≠ "name"; decide +kernel) (by rw [hp]; show ("let" : Str) ≠ "fun"; decide +kernel)⟩
    · rw [hp] at hs; exact hs.elim
    · walk_at "gg"
      refine g_F (decide_eq_false (not_name hw)) ?_
      walk_at "gg"
      refine g_F (decide_eq_false fun e => hw (by rw [e]; simp)) ?_
      walk_at "gg"
      refine g_F (decide_eq_false fun e => hw (by rw [e]; simp)) ?_
      walk_at "gg"
      refine g_seqL ?_
      walk_at "gg"
      have hsc : p.scope sc = sc := scope_plain hw
      exact rest kl H ⟨by rw [hsc]; exact ek, .refl _, Part.odd_kids hs (not_name hw) (fun e => hw (by rw [e]; simp))⟩
    · have ea' : H a = some (.tup (.str "number" :: xs)) := by rw [hp] at ea; exact ea
      walk_at "gg"
      refine g_seqL ?_
      walk_at "gg"
      exact rest kl H ⟨by rw [hp]; exact ek, .refl _, by rw [hp]; rfl⟩
    · obtain ⟨u1, us1, hxs, t1, t2⟩ := Tps.cons_inv (show Tps H xs [.str x] from by rw [hp] at txs; exact txs)
      have ea' : H a = some (.tup [.str "name", .str x]) := by rw [hp, hxs, t2.nil_inv, t1.str_inv] at ea; exact ea
      walk_at "gg"
      refine g_notInL (ss := sc) (.of ek) ?_
      walk_at "gg"
      by_cases hx : x ∈ sc
      · refine g_F (by rw [decide_eq_true hx]; rfl) ?_
        walk_at "gg"
        refine g_seqL ?_
        walk_at "gg"
        exact rest kl H ⟨by rw [hp]; exact ek, .refl _, by rw [hp]; exact if_pos hx⟩
      · refine g_T (by rw [decide_eq_false hx]; rfl) ?_
        walk_at "gg"
        have := q H (.refl _)
        rwa [hp, show (Part.name x).odd fs sc = some x from if_neg hx] at this
    · obtain ⟨u1, us1, hxs, t1, t2⟩ := Tps.cons_inv (show Tps H xs [.str f] from by rw [hp] at txs; exact txs)
      have ea' : H a = some (.tup [.str "fun", .str f]) := by rw [hp, hxs, t2.nil_inv, t1.str_inv] at ea; exact ea
      walk_at "gg"
      refine g_notInL (ss := fs) (.of ef) ?_
      walk_at "gg"
      by_cases hx : f ∈ fs
      · refine g_F (by rw [decide_eq_true hx]; rfl) ?_
        walk_at "gg"
        refine g_seqL ?_
        walk_at "gg"
        exact rest kl H ⟨by rw [hp]; exact ek, .refl _, by rw [hp]; exact if_pos hx⟩
      · refine g_T (by rw [decide_eq_false hx]; rfl) ?_
        walk_at "gg"
        have := q H (.refl _)
        rwa [hp, show (Part.fn f).odd fs sc = some f from if_neg hx] at this
  rintro k1 H1 ⟨ek1, s1, hodd⟩
  have t1 := t.mono (Same.tk s1)
  have ef1 := s1 _ _ ef
  refine inner_kids (K := K) t1 hs fun lk us H2 nk el tk s2 => ?_
  refine g_isL (.of el) ?_
  have hul : us.length = p.kids.length := by rw [tk.length, List.length_map]
  rw [hodd] at q
  refine for_L (xs := us) (fun i σ H' => ∃ y4 y5, σ = [some (.ref a), some (.ref k1), some (.ref fl), none, y4, y5] ∧ Same H2 H' ∧ oddL fs (p.scope sc) (p.kids.drop i) = oddL fs (p.scope sc) p.kids) (fun i σ H' ⟨_, _, _, s, _⟩ => s _ _ el) ⟨_, _, rfl, .refl _, rfl⟩ ?_ ?_
  · rintro i x σ H3 hx ⟨y4, y5, rfl, s3, ho⟩
    obtain ⟨d, hd, tx⟩ := tk.get hx
    rw [List.getElem?_map] at hd
    obtain ⟨p2, hp2, rfl⟩ := Option.map_eq_some_iff.mp hd
    have hm2 := List.mem_of_getElem? hp2
    have := mxd_mem hm2
    have := sz_mem hm2
    have s23 := s2.trans s3
    rw [oddL_at hp2] at ho
    walk_at "gg"
    refine ⟨x, k1, fl, p2, fs, p.scope sc, rfl, tx.mono (Same.tk s3), hs.kids p2 hm2, by omega, by omega, s23 _ _ ek1, s23 _ _ ef1, hsl, fun H4 s4 => ?_⟩
    walk_at "gg"
    cases hp : p2.odd fs (p.scope sc) with
    | none =>
      rw [hp, Option.none_or] at ho
      refine g_F (by decide +kernel) ?_
      walk_at "gg"
      exact ⟨_, _, rfl, s3.trans s4, ho⟩
    | some z =>
      have hz := Part.odd_name (hs.kids p2 hm2) hp
      have hne : z ≠ "" := by rintro rfl; exact absurd hz.1 (by decide +kernel)
      refine g_T (by show (!decide (z = "")) = true; rw [decide_eq_false hne]; rfl) ?_
      walk_at "gg"
      rw [hp] at ho
      have := q H4 (s1.trans (s23.trans s4))
      rwa [show oddL fs (p.scope sc) p.kids = some z from by rw [← ho]; rfl] at this
  · rintro σ H3 ⟨y4, y5, rfl, s3, ho⟩
    rw [hul, List.drop_length] at ho
    walk_at "gg"
    have := q H3 (s1.trans (s2.trans s3))
    rwa [← ho] at this

/-! ### what is due -/
theorem wordE_t : wordE "Twice" = "twice" ∧ wordE "Hidden" = "hidden" ∧ wordE "Stranger" = "stranger" := by decide +kernel
theorem pure_due {K : PySem.W.Frag} {w : World} : PureOk 1 spToldX (t_law_due K w spIsFunctionX spIsBodyX (spLets 12) (spStrange 12)) 8 := by
  refine ⟨fun vs H Q E ⟨_, _, e, _⟩ => by rw [e]; rfl, ?_⟩
  rintro vs H Q E ⟨v, d, rfl, t, qno, qP⟩
  show t_law_due K w _ _ _ _ _ [some v, none, none, none, none, none, none, none] H
  unfold t_law_due
  have hno : builtM d = false → ∀ (t : Addr) H', H' t = some (.tup [.str "program", .str ""]) → Same H H' → Q (.ref t) H' := fun h t H' e s => qno h t H' s e
  walk_at "gg"
  refine g_isiTup t ?_
  walk_at "gg"
  cases d with
  | tuple ds =>
    refine g_F rfl ?_
    obtain ⟨a, xs, rfl, ea, ts⟩ := t.tup_inv
    have hl := ts.length
    walk_at "gg"
    match ds, t, ts, hl, hno, qP with
    | [d1, d2], t, ts, hl, hno, qP =>
      refine g_F (by rw [decide_eq_true (by rw [hl]; rfl)]; rfl) ?_
      obtain ⟨x1, us1, rfl, t1, tsb⟩ := ts.cons_inv
      obtain ⟨x2, us2, rfl, t2, tsc⟩ := tsb.cons_inv
      rw [tsc.nil_inv] at ea
      clear tsb tsc ts
      walk_at "gg"
      refine g_isiTup t1 ?_
      walk_at "gg"
      cases d1 with
      | tuple fs =>
        refine g_F rfl ?_
        obtain ⟨b, ys, rfl, eb, ty⟩ := t1.tup_inv
        have hyl := ty.length
        have hbm : builtM (.tuple [.tuple fs, d2]) = (decide (fs.length ≤ 8) && (fs.all functionM && bodyM d2)) := rfl
        walk_at "gg"
        by_cases h8 : fs.length ≤ 8
        rotate_left
        · refine g_T (decide_eq_true (by omega)) ?_
          walk_at "gg"
          rename_i t3 H3 n3 e3 s3
          exact hno (by rw [hbm, decide_eq_false h8, Bool.false_and]) t3 H3 e3 s3
        refine g_F (decide_eq_false (by omega)) ?_
        walk_at "gg"
        refine g_seqT ?_
        walk_at "gg"
        refine lc_sift (K := K) ys.length (fun i => match fs[i]? with | some d => !functionM d | none => false) (fun i H' hi s => ⟨_, _, .of (s _ _ eb), List.getElem?_eq_getElem hi⟩) (fun H' s => ⟨_, .of (s _ _ eb), Nat.le_refl _⟩) (by omega) ?_ ?_
        · rintro i x H' H'' Na Nb hi s ⟨rfl, hx⟩ hA hB
          obtain ⟨dn, hdn, tn⟩ := (ty.mono (Same.tl s)).get (hx _ (.of (s _ _ eb)))
          rw [hdn] at hA hB
          walk_at "gg"
          refine ⟨rfl, ?_⟩
          walk_at "gg"
          refine ⟨x, dn, rfl, tn, fun H5 s5 => ?_⟩
          walk_at "gg"
          refine g_ite (fun h => ?_) (fun h => ?_)
          · walk_at "gg"
            exact hA _ _ h s5
          · exact hB _ h s5
        intro D zs H1 nD eD hzs s1
        rw [hyl, range_all fs functionM _ (fun i d hd => by rw [hd]; simp)] at hzs
        walk_at "gg"
        rename_i l2 H2 n2 e2 s2
        have s02 := s1.trans s2
        by_cases hf : fs.all functionM = true
        rotate_left
        · refine g_T (by rw [hzs]; simpa using hf) ?_
          walk_at "gg"
          rename_i t3 H3 n3 e3 s3
          exact hno (by rw [hbm, show fs.all functionM = false from by simpa using hf, Bool.false_and, Bool.and_false]) t3 H3 e3 (s02.trans s3)
        refine g_F (by rw [hzs, hf]; rfl) ?_
        have ea2 := s02 _ _ ea
        walk_at "gg"
        refine ⟨x2, d2, rfl, t2.mono (Same.tl s02), fun H3 s3 => ?_⟩
        have s03 := s02.trans s3
        walk_at "gg"
        by_cases hb : bodyM d2 = true
        rotate_left
        · refine g_T (by rw [show bodyM d2 = false from by simpa using hb]; rfl) ?_
          walk_at "gg"
          rename_i t3 H3 n3 e3 s3
          exact hno (by rw [hbm, show bodyM d2 = false from by simpa using hb, Bool.and_false, Bool.and_false]) t3 H3 e3 (s03.trans s3)
        refine g_F (by rw [hb]; rfl) ?_
        obtain ⟨P, hP, hbd, qn, qe⟩ := qP (by rw [hbm, decide_eq_true h8, hf, hb]; rfl)
        have tP : Tp H3 (.ref a) P.data := by
          rw [← hP]
          exact (t.mono (Same.tl s03)).tp (by rw [hP]; exact P.tpB)
        clear qno qP hno ea eb ty t1 t2 t ea2 hzs eD nD e2 n2 s1 s2 s3 s02 hbm hf hb hyl hl
        obtain ⟨pa, fa, u, vs, hpa, epa3, efa3, tfs3, tas3⟩ := tP.prog
        cases hpa
        have hvl : vs.length = P.fs.length := by rw [tfs3.length, List.length_map]
        have hfew := hbd.few
        walk_at "gg"
        refine g_seqT ?_
        walk_at "gg"
        refine lc_mapT efa3 (by omega) (fun i y H' => ∃ nm, P.names[i]? = some nm ∧ y = .str nm) (fun i y H H' k h => h) ?_ ?_
        · intro i x H' Nx hx s hN
          obtain ⟨d, hd, td⟩ := tfs3.get hx
          rw [List.getElem?_map] at hd
          obtain ⟨f, hf, rfl⟩ := Option.map_eq_some_iff.mp hd
          obtain ⟨a3, b3, u3, rfl, ea3, eb3, tu3⟩ := td.fn1
          walk_at "gg"
          refine ⟨rfl, ?_⟩
          walk_at "gg"
          exact hN _ _ (.refl _) ⟨f.name, by show (P.fs.map _)[i]? = _; rw [List.getElem?_map, hf]; rfl, rfl⟩
        intro D ys2 H4 nD eD hys hF s4
        have hnl : P.names.length = P.fs.length := by show (P.fs.map _).length = _; rw [List.length_map]
        have hys2 : ys2 = P.names.map V.str := by
          refine List.ext_getElem? fun i => ?_
          cases e : ys2[i]? with
          | none =>
            rw [List.getElem?_eq_none_iff] at e
            rw [List.getElem?_eq_none (by rw [List.length_map]; omega)]
          | some y =>
            obtain ⟨nm, hq, rfl⟩ := hF i y e
            rw [List.getElem?_map, hq]
            rfl
        subst hys2
        have epa4 := s4 _ _ epa3
        have efa4 := s4 _ _ efa3
        have tfs4 := tfs3.mono (Same.tk s4)
        have tas4 := tas3.mono (Same.tk s4)
        have s04 := s03.trans s4
        clear epa3 efa3 tfs3 tas3 s4 hF nD hys tP
        walk_at "gg"
        have hj : ((P.names.map V.str).length : Int).toNat = P.names.length := by rw [List.length_map]; omega
        refine g_isrng (by omega) (by rw [List.length_map]; omega) ?_
        rw [hj]
        refine for_any P.names.length (fun i σ H' => ∃ x3, σ = [some (.ref a), none, some (.ref D), x3, none, none, none, none] ∧ Same H4 H' ∧ dupG (P.names.take i) (P.names.drop i) = dupG [] P.names) ⟨_, rfl, .refl _, rfl⟩ (fun i σ H' hi _ => hi) (fun σ H' _ => Nat.le_refl _) ?_ ?_
        · rintro i x σ _ H5 hi ⟨x3, rfl, s5, hdup⟩ ⟨rfl, rfl⟩
          have el1 := s5 _ _ eD
          have hg : P.names[i]? = some P.names[i] := List.getElem?_eq_getElem hi
          rw [dup_at hi] at hdup
          walk_at "gg"
          rw [Int.zero_add]
          refine g_ixL (.of el1) (v := .str P.names[i]) (atI_of (by omega) (by rw [Int.toNat_natCast, List.getElem?_map, hg]; rfl)) ?_
          walk_at "gg"
          refine g_slL (.of el1) ?_
          rw [cut_to]
          walk_at "gg"
          rename_i l6 H6 n6 e6 s6
          refine g_inL (ss := P.names.take i) (.of e6) ?_
          walk_at "gg"
          by_cases hm : P.names[i] ∈ P.names.take i
          · rw [if_pos hm] at hdup
            refine g_T (decide_eq_true hm) ?_
            walk_at "gg"
            refine g_ixL (.of (s6 _ _ el1)) (v := .str P.names[i]) (atI_of (by omega) (by rw [Int.toNat_natCast, List.getElem?_map, hg]; rfl)) ?_
            walk_at "gg"
            rename_i t7 H7 n7 e7 s7
            exact qe "Twice" _ (by unfold lookM; rw [← hdup]) t7 H7 (s04.trans (s5.trans (s6.trans s7))) (by rw [wordE_t.1]; exact e7)
          · rw [if_neg hm] at hdup
            refine g_F (decide_eq_false hm) ?_
            walk_at "gg"
            exact ⟨_, rfl, s5.trans s6, hdup⟩
        rintro σ H5 ⟨x3, rfl, s5, hdup⟩
        rw [List.drop_length] at hdup
        have hlook : lookM P = lookL P.names P.items := by unfold lookM; rw [← hdup]; rfl
        rw [hlook] at qn qe
        have epa5 := s5 _ _ epa4
        have efa5 := s5 _ _ efa4
        have tfs5 := tfs4.mono (Same.tk s5)
        have tas5 := tas4.mono (Same.tk s5)
        have eD5 := s5 _ _ eD
        have s05 := s04.trans s5
        clear epa4 efa4 tfs4 tas4 s04 s5 eD hlook hdup
        walk_at "gg"
        refine g_seqL ?_
        walk_at "gg"
        refine g_seqT ?_
        walk_at "gg"
        refine lc_mapT efa5 (by omega) (fun i y H' => ∃ c b u' f, P.fs[i]? = some f ∧ y = .ref c ∧ H' c = some (.tup [.ref b, u']) ∧ H' b = some (.tup (f.things.map V.str)) ∧ Tp H' u' f.body.data)
          (fun i y H H' k ⟨c, b, u', f, h1, h2, h3, h4, h5⟩ => ⟨c, b, u', f, h1, h2, k _ _ h3, k _ _ h4, h5.mono k⟩) ?_ ?_
        · intro i x H' Nx hx s hN
          obtain ⟨d, hd, td⟩ := (tfs5.mono (Same.tk s)).get hx
          rw [List.getElem?_map] at hd
          obtain ⟨f, hf, rfl⟩ := Option.map_eq_some_iff.mp hd
          obtain ⟨a3, b3, u3, rfl, ea3, eb3, tu3⟩ := td.fn1
          walk_at "gg"
          refine ⟨rfl, ?_⟩
          walk_at "gg"
          rename_i c4 H6 n6 e6 s6
          exact hN _ _ s6 ⟨c4, b3, u3, f, hf, rfl, e6, s6 _ _ eb3, tu3.mono (Same.tk s6)⟩
        intro D2 ys3 H6 nD2 eD2 hys hF s6
        have epa6 := s6 _ _ epa5
        have tas6 := tas5.mono (Same.tk s6)
        have eD6 := s6 _ _ eD5
        have s06 := s05.trans s6
        clear epa5 tas5 eD5 s05 s6 efa5 tfs5
        walk_at "gg"
        rename_i t7 H7 n7 e7 s7 c8 H8 n8 e8 s8 l9 H9 n9 e9 s9 l10 H10 n10 e10 s10
        have s610 : Same H6 H10 := s7.trans (s8.trans (s9.trans s10))
        have hyl3 : ys3.length = P.fs.length := by rw [hys, hvl]
        have hitem : ∀ (i : Nat) x, (ys3 ++ [V.ref c8])[i]? = some x → ∃ c b u' ths bd, P.items[i]? = some (ths, bd) ∧ x = .ref c ∧ H10 c = some (.tup [.ref b, u']) ∧ H10 b = some (.tup ((ths : List Str).map V.str)) ∧ Tp H10 u' (Part.data bd) ∧ bd.bd ∧ ths.length ≤ 4 := by
          intro i x hx
          have hml : (P.fs.map fun f => (f.things, f.body)).length = ys3.length := by rw [List.length_map, hyl3]
          by_cases hi : i < ys3.length
          · rw [List.getElem?_append_left hi] at hx
            obtain ⟨c, b, u', f, h1, h2, h3, h4, h5⟩ := hF i x hx
            have hff := hbd.fs f (List.mem_of_getElem? h1)
            exact ⟨c, b, u', f.things, f.body, by unfold Prog.items; rw [List.getElem?_append_left (by omega), List.getElem?_map, h1]; rfl, h2, s610 _ _ h3, s610 _ _ h4, h5.mono (Same.tk s610), hff.body, hff.few⟩
          · have hj := (List.getElem?_eq_some_iff.mp hx).1
            rw [List.length_append, List.length_singleton] at hj
            have hi' : i = ys3.length := by omega
            subst hi'
            rw [List.getElem?_append_right (Nat.le_refl _), Nat.sub_self] at hx
            cases hx
            exact ⟨c8, t7, u, [], P.asked, by unfold Prog.items; rw [← hml, List.getElem?_append_right (Nat.le_refl _), Nat.sub_self]; rfl, rfl, s10 _ _ (s9 _ _ e8), s10 _ _ (s9 _ _ (s8 _ _ e7)), tas6.mono (Same.tk s610), hbd.asked, by decide⟩
        have hwl : (ys3 ++ [V.ref c8]).length = P.items.length := by unfold Prog.items; rw [List.length_append, List.length_append, List.length_map, hyl3]; rfl
        have s010 := s06.trans s610
        have eD10 := s610 _ _ eD6
        clear hF eD6 tas6 epa6 e7 e8 e9 s7 s8 s9 s10 s610 n7 n8 n9 n10 s06 eD2 nD2
        generalize ys3 ++ [V.ref c8] = ws at *
        refine for_L (xs := ws) (fun i σ H' => ∃ y3 y4 y5 y6 y7, σ = [some (.ref a), none, some (.ref D), y3, y4, y5, y6, y7] ∧ Same H10 H' ∧ lookL P.names (P.items.drop i) = lookL P.names P.items) (fun i σ H' ⟨_, _, _, _, _, _, s, _⟩ => s _ _ e10) ⟨_, _, _, _, _, rfl, .refl _, rfl⟩ ?_ ?_
        rotate_left
        · rintro σ H11 ⟨y3, y4, y5, y6, y7, rfl, s11, hlk⟩
          rw [hwl, List.drop_length] at hlk
          walk_at "gg"
          rename_i t12 H12 n12 e12 s12
          exact qn hlk.symm t12 H12 (s010.trans (s11.trans s12)) e12
        rintro i x σ H11 hx ⟨y3, y4, y5, y6, y7, rfl, s11, hlk⟩
        obtain ⟨c, b, u', ths, bd, hit, rfl, ec, eb, tb, hb, hl4⟩ := hitem i x hx
        rw [lookL_at hit] at hlk
        have ec11 := s11 _ _ ec
        have eb11 := s11 _ _ eb
        have tb11 := tb.mono (Same.tk s11)
        have eD11 := s11 _ _ eD10
        have s011 := s010.trans s11
        clear ec eb tb
        walk_at "gg"
        rename_i l12 H12 n12 e12 s12
        have hrs := bd.rn_size
        have hbz := hb.size
        have hbd' := hb.deep
        refine ⟨u', bd, rfl, tb11.mono (Same.tk s12), hb.shape, hb.deep, hb.size, fun l13 H13 n13 e13 s13 => ?_⟩
        refine g_addL (s13 _ _ e12) e13 (by simp only [List.length_map]; show _ ≤ 16777216; omega) ?_
        walk_at "gg"
        rename_i l14 H14 n14 e14 s14
        rw [← List.map_append] at e14
        have s1114 := s12.trans (s13.trans s14)
        have hkl : (ths ++ bd.rowNames).length ≤ 1000 := by rw [List.length_append]; omega
        have eb14 := s1114 _ _ eb11
        have tb14 := tb11.mono (Same.tk s1114)
        have eD14 := s1114 _ _ eD11
        have s014 := s011.trans s1114
        have hdef : lookF P.names (ths, bd) = (match dupG [] (ths ++ bd.rowNames) with | some x => some (("Hidden" : Str), x) | none => (bd.odd P.names ths).map fun x => (("Stranger" : Str), x)) := rfl
        rw [hdef] at hlk
        have hl2 : (ths.map V.str ++ bd.rowNames.map V.str).length = (ths ++ bd.rowNames).length := by rw [← List.map_append, List.length_map]
        rw [hl2]
        generalize hns : ths ++ bd.rowNames = ns at *
        clear eb11 tb11 eD11 s12 s13 e12 e13 n12 n13 ec11 s14 hns
        have hj2 : ((ns.length : Nat) : Int).toNat = ns.length := by omega
        refine g_isrng (by omega) (by omega) ?_
        rw [hj2]
        refine for_any ns.length (fun i σ H' => ∃ y3, σ = [some (.ref a), none, some (.ref D), y3, some (.ref b), some u', some (.ref l14), y7] ∧ Same H14 H' ∧ dupG (ns.take i) (ns.drop i) = dupG [] ns) ⟨_, rfl, .refl _, rfl⟩ (fun i σ H' hi _ => hi) (fun σ H' _ => Nat.le_refl _) ?_ ?_
        · rintro j x σ _ H15 hj ⟨z3, rfl, s15, hdup⟩ ⟨rfl, rfl⟩
          have el1 := s15 _ _ e14
          have hg : ns[j]? = some ns[j] := List.getElem?_eq_getElem hj
          rw [dup_at hj] at hdup
          walk_at "gg"
          rw [Int.zero_add]
          refine g_ixL (.of el1) (v := .str ns[j]) (atI_of (by omega) (by rw [Int.toNat_natCast, List.getElem?_map, hg]; rfl)) ?_
          walk_at "gg"
          refine g_slL (.of el1) ?_
          rw [cut_to]
          walk_at "gg"
          rename_i l16 H16 n16 e16 s16
          refine g_inL (ss := ns.take j) (.of e16) ?_
          walk_at "gg"
          by_cases hm : ns[j] ∈ ns.take j
          · rw [if_pos hm] at hdup
            refine g_T (decide_eq_true hm) ?_
            walk_at "gg"
            refine g_ixL (.of (s16 _ _ el1)) (v := .str ns[j]) (atI_of (by omega) (by rw [Int.toNat_natCast, List.getElem?_map, hg]; rfl)) ?_
            walk_at "gg"
            rename_i t17 H17 n17 e17 s17
            rw [← hdup] at hlk
            exact qe "Hidden" _ (by rw [← hlk]; rfl) t17 H17 (s014.trans (s15.trans (s16.trans s17))) (by rw [wordE_t.2.1]; exact e17)
          · rw [if_neg hm] at hdup
            refine g_F (decide_eq_false hm) ?_
            walk_at "gg"
            exact ⟨_, rfl, s15.trans s16, hdup⟩
        rintro σ H15 ⟨z3, rfl, s15, hdup⟩
        rw [List.drop_length] at hdup
        rw [← hdup] at hlk
        have hlk' : ((bd.odd P.names ths).map fun x => (("Stranger" : Str), x)).or (lookL P.names (P.items.drop (i + 1))) = lookL P.names P.items := hlk
        have eb15 := s15 _ _ eb14
        have tb15 := tb14.mono (Same.tk s15)
        have eD15 := s15 _ _ eD14
        have s015 := s014.trans s15
        clear eb14 tb14 eD14
        walk_at "gg"
        rename_i l16 H16 n16 e16 s16
        refine ⟨u', l16, D, bd, P.names, ths, rfl, tb15.mono (Same.tk s16), hb.shape, hb.deep, hb.size, e16, s16 _ _ eD15, by omega, fun H17 s17 => ?_⟩
        walk_at "gg"
        cases hp : bd.odd P.names ths with
        | none =>
          rw [hp] at hlk'
          refine g_F (by decide +kernel) ?_
          walk_at "gg"
          exact ⟨_, _, _, _, _, rfl, s11.trans (s1114.trans (s15.trans (s16.trans s17))), hlk'⟩
        | some z =>
          have hz := Part.odd_name hb.shape hp
          have hne : z ≠ "" := by rintro rfl; exact absurd hz.1 (by decide +kernel)
          refine g_T (by show (!decide (z = "")) = true; rw [decide_eq_false hne]; rfl) ?_
          walk_at "gg"
          rename_i t18 H18 n18 e18 s18
          rw [hp] at hlk'
          exact qe "Stranger" z (by rw [← hlk']; rfl) t18 H18 (s015.trans (s16.trans (s17.trans s18))) (by rw [wordE_t.2.2]; exact e18)
      | _ =>
        refine g_T rfl ?_
        walk_at "gg"
        rename_i t3 H3 n3 e3 s3
        exact hno rfl t3 H3 e3 s3
    | [], t, ts, hl, hno, qP =>
      refine g_T (by rw [decide_eq_false (by rw [hl]; show ¬ ((0 : Int) = 2); decide)]; rfl) ?_
      walk_at "gg"
      rename_i t3 H3 n3 e3 s3
      exact hno rfl t3 H3 e3 s3
    | [d1], t, ts, hl, hno, qP =>
      refine g_T (by rw [decide_eq_false (by rw [hl]; show ¬ ((1 : Int) = 2); decide)]; rfl) ?_
      walk_at "gg"
      rename_i t3 H3 n3 e3 s3
      exact hno (by cases d1 <;> rfl) t3 H3 e3 s3
    | d1 :: _ :: _ :: _, t, ts, hl, hno, qP =>
      refine g_T (by rw [decide_eq_false (by rw [hl]; simp only [List.length_cons]; omega)]; rfl) ?_
      walk_at "gg"
      rename_i t3 H3 n3 e3 s3
      exact hno (by cases d1 <;> rfl) t3 H3 e3 s3
  | _ =>
    refine g_T rfl ?_
    walk_at "gg"
    rename_i t3 H3 n3 e3 s3
    exact hno rfl t3 H3 e3 s3

/-! ### texts of what is built as a program -/
theorem Fn1.bd.words_ok {f : Fn1} (h : f.bd) : f.words.length ≤ 190 ∧ ∀ w ∈ f.words, w.length ≤ 61 := by
  obtain ⟨w1, w2, _⟩ := good_words h.body.good h.body.size
  have hf := h.few
  refine ⟨?_, fun w hw => ?_⟩
  · show (dots f.things ++ (("=" : Str) :: f.body.words)).length + 1 ≤ 190
    unfold dots
    rw [List.length_append, List.length_map, List.length_cons]
    omega
  · rcases List.mem_cons.mp hw with rfl | hw
    · have := h.nm.2.1; omega
    · rcases List.mem_append.mp hw with hw | hw
      · obtain ⟨x, hx, rfl⟩ := List.mem_map.mp hw
        have := dot_len (h.th x hx)
        omega
      · rcases List.mem_cons.mp hw with rfl | hw
        · decide
        · exact w2 w hw
def spFTextB : Sp := fun vs H Q _ => ∃ (v : V) (f : Fn1), vs = [v] ∧ Tp H v f.data ∧ f.bd ∧ ∀ (H' : Hp), Same H H' → Q (.str (Txt.join " " f.words)) H'
theorem pure_ftextB {K : PySem.W.Frag} {w : World} : PureOk 1 spFTextB (t_function_text K w (spWords 12)) 5 := by
  refine ⟨fun vs H Q E ⟨_, _, e, _⟩ => by rw [e]; rfl, ?_⟩
  rintro vs H Q E ⟨v, f, rfl, t, hf, q⟩
  show t_function_text K w _ _ [some v, none, none, none, none] H
  unfold t_function_text
  walk_at "go"
  obtain ⟨a, b, u, rfl, ea, eb, tu⟩ := t.fn1
  refine g_un3 ea ?_
  walk_at "go"
  intro l1 H1 n1 e1 s1
  walk_at "go"
  refine g_seqT ?_
  walk_at "go"
  have hfew := hf.few
  refine dots_lc ?h1 ?h2 (s1 _ _ eb) hf.th (by omega) fun l2 H2 n2 e2 s2 => ?_
  · exact fun _ => rfl
  · exact fun _ => rfl
  have hdl : (dots f.things).length ≤ 4 := by unfold dots; rw [List.length_map]; exact hfew
  refine g_addL (s2 _ _ e1) e2 (by rw [List.length_map]; show 1 + _ ≤ 16777216; omega) fun l3 H3 n3 e3 s3 => ?_
  walk_at "go"
  intro l4 H4 n4 e4 s4
  walk_at "go"
  refine g_addL (s4 _ _ e3) e4 (by rw [List.length_append, List.length_map]; show 1 + _ + 1 ≤ 16777216; omega) fun l5 H5 n5 e5 s5 => ?_
  walk_at "go"
  have s05 : Same H H5 := s1.trans (s2.trans (s3.trans (s4.trans s5)))
  refine ⟨u, f.body, rfl, tu.mono (Same.tk s05), hf.body.good, hf.body.size, hf.body.deep, fun l6 H6 e6 s6 => ?_⟩
  obtain ⟨w1, w2, _⟩ := good_words hf.body.good hf.body.size
  refine g_addL (s6 _ _ e5) e6 (by rw [List.length_append, List.length_append, List.length_map, List.length_map]; show 1 + _ + 1 + _ ≤ 16777216; omega) fun l7 H7 n7 e7 s7 => ?_
  obtain ⟨w3, w4⟩ := hf.words_ok
  have e7' : H7 l7 = some (.lst (f.words.map V.str)) := by
    rw [e7]
    show _ = some (HO.lst (V.str f.name :: (dots f.things ++ (("=" : Str) :: f.body.words)).map V.str))
    rw [List.map_append, List.append_assoc, List.append_assoc]
    rfl
  refine g_join (.of e7') w4 w3 (by decide) ?_
  exact q H7 (s05.trans (s6.trans s7))
theorem Prog.bd.rows {P : Prog} (h : P.bd) : P.wrows.length ≤ 9 ∧ ∀ r ∈ P.wrows, r.length ≤ 190 ∧ ∀ w ∈ r, w.length ≤ 61 := by
  have hfew := h.few
  refine ⟨?_, fun r hr => ?_⟩
  · show (P.fs.map Fn1.words ++ [_]).length ≤ 9
    rw [List.length_append, List.length_map, List.length_singleton]
    omega
  · rcases List.mem_append.mp hr with hr | hr
    · obtain ⟨f, hf, rfl⟩ := List.mem_map.mp hr
      exact (h.fs f hf).words_ok
    · rw [List.mem_singleton.mp hr]
      obtain ⟨w1, w2, _⟩ := good_words h.asked.good h.asked.size
      refine ⟨by rw [List.length_cons]; omega, fun w hw => ?_⟩
      rcases List.mem_cons.mp hw with rfl | hw
      · decide
      · exact w2 w hw
theorem Prog.bd.joined {P : Prog} (h : P.bd) : ∀ s ∈ P.wrows.map (Txt.join " "), s.length ≤ 11780 := by
  intro s hs
  obtain ⟨r, hr, rfl⟩ := List.mem_map.mp hs
  obtain ⟨h1, h2⟩ := h.rows.2 r hr
  exact join_small h1 h2
def spWrittenB : Sp := fun vs H Q _ => ∃ (v : V) (P : Prog), vs = [v] ∧ Tp H v P.data ∧ P.bd ∧ ∀ (H' : Hp), Same H H' → Q (.str P.text) H'
theorem pure_writtenB {K : PySem.W.Frag} {w : World} : PureOk 1 spWrittenB (t_written K w spFTextB spText) 3 := by
  refine ⟨fun vs H Q E ⟨_, _, e, _⟩ => by rw [e]; rfl, ?_⟩
  rintro vs H Q E ⟨v, P, rfl, tP, hfine, q⟩
  show t_written K w _ _ _ [some v, none, none] H
  unfold t_written
  obtain ⟨pa, fa, u, vs, rfl, epa, efa, tfs, tas⟩ := tP.prog
  walk_at "go"
  refine g_seqT ?_
  walk_at "go"
  refine g_ixT (.of epa) (atI_of (by decide) rfl) ?_
  refine g_isT (.of efa) fun dn hdn => ?_
  have hvl : vs.length = P.fs.length := by rw [tfs.length, List.length_map]
  have hfew := hfine.few
  refine lc_any vs.length (fun i acc H' => acc = (((P.fs.take i).map Fn1.words).map (Txt.join " ")).map V.str ∧ Same H H') hdn
    (fun H' _ s => ⟨by simp, s⟩) (fun i acc H' hi ⟨_, s⟩ => ⟨_, _, .of (s _ _ efa), List.getElem?_eq_getElem hi⟩) (fun acc H' ⟨_, s⟩ => ⟨_, .of (s _ _ efa), Nat.le_refl _⟩) ?_ ?_
  · rintro i x acc _ H8 hi hl ⟨rfl, s8⟩ hd8 ⟨rfl, hx⟩
    obtain ⟨dt, hdt, tx⟩ := tfs.get (hx _ (.of (s8 _ _ efa)))
    rw [List.getElem?_map] at hdt
    obtain ⟨f, hf, rfl⟩ := Option.map_eq_some_iff.mp hdt
    walk_at "go"
    refine ⟨rfl, ?_⟩
    walk_at "go"
    refine g_T rfl ?_
    walk_at "go"
    refine ⟨x, f, rfl, tx.mono (Same.tk s8), hfine.fs f (List.mem_of_getElem? hf), fun H9 s9 => ?_⟩
    have hd9 := s9 _ _ hd8
    refine lc_step hd9 hl (by show _ < 16777216; omega) fun H10 e10 c10 => ?_
    exact ⟨by rw [List.take_add_one, hf]; simp, Same.chg (s8.trans s9) hdn c10⟩
  rintro us H3 hd3 ⟨rfl, s3⟩
  rw [hvl, List.take_length] at hd3
  walk_at "go"
  refine g_ixT (.of (s3 _ _ epa)) (atI_of (by decide) rfl) ?_
  walk_at "go"
  refine ⟨u, P.asked, rfl, tas.mono (Same.tk s3), hfine.asked.good, hfine.asked.size, fun H4 s4 => ?_⟩
  obtain ⟨w1, w2, w3⟩ := good_words hfine.asked.good hfine.asked.size
  have hj := join_small (by omega) w2
  have hq : ("? " : Str).length = 2 := by decide
  refine g_addS (by show _ ≤ 16777216; omega) ?_
  walk_at "go"
  intro l5 H5 n5 e5 s5
  refine g_addL (s5 _ _ (s4 _ _ hd3)) e5 (by rw [List.length_map, List.length_map, List.length_map]; show _ + 1 ≤ 16777216; omega) fun l6 H6 n6 e6 s6 => ?_
  have e6' : H6 l6 = some (.lst ((P.wrows.map (Txt.join " ")).map V.str)) := by
    rw [e6]
    show _ = some (HO.lst (((P.fs.map Fn1.words ++ [("?" : Str) :: P.asked.words]).map (Txt.join " ")).map V.str))
    rw [List.map_append, List.map_append]
    show _ = some (HO.lst (_ ++ [V.str (Txt.join " " (("?" : Str) :: P.asked.words))]))
    rw [join_head w3]
    rfl
  refine g_join (.of e6') hfine.joined (by rw [List.length_map]; exact hfine.rows.1) (by decide) ?_
  exact q H6 (s3.trans (s4.trans (s5.trans s6)))
def spReadFnB (K : PySem.W.Frag) : Sp := fun vs H Q _ => ∃ (wl : Addr) (row : Int) (f : Fn1), vs = [.int row, .ref wl] ∧ H wl = some (.lst (f.words.map V.str)) ∧ f.bd ∧
  ∀ (v : V) (H' : Hp), Tp H' v f.data → Same H H' → Q v H'
theorem pure_readfnB {K : PySem.W.Frag} {w : World} : PureOk 2 (spReadFnB K) (t_read_function K w spIsNameG spIsMark (spReadPart K)) 4 := by
  refine ⟨fun vs H Q E ⟨_, _, _, e, _⟩ => by rw [e]; rfl, ?_⟩
  rintro vs H Q E ⟨wl, row, f, rfl, ew, hf, q⟩
  show t_read_function K w _ _ _ _ [some (.int row), some (.ref wl), none, none] H
  unfold t_read_function
  have hnm := hf.nm
  have hfew := hf.few
  obtain ⟨hwl, hwsz⟩ := hf.words_ok
  walk_at "gg"
  refine ⟨f.name, rfl, by have := hnm.2.1; omega, fun H1 s1 => ?_⟩
  rw [decide_eq_true hnm]
  walk_at "gg"
  rename_i nl H2 nn e2 s2
  have s02 := s1.trans s2
  have hnw : wl ≠ nl := ne_of_none (s1 _ _ ew) nn
  refine while_any (fun m σ H' => ∃ j, m = f.things.length - j ∧ j ≤ f.things.length ∧ σ = [some (.int row), some (.ref wl), some (.int ((1 + j : Nat) : Int)), some (.ref nl)] ∧ H' nl = some (.lst ((f.things.take j).map V.str)) ∧ Chg nl H2 H') f.things.length
    ⟨0, rfl, Nat.zero_le _, rfl, e2, .refl⟩ ?_
  rintro m σ H3 ⟨j, rfl, hj, rfl, e3, c3⟩
  have ew3 := c3 _ _ hnw (s02 _ _ ew)
  have hin : 1 + j < f.words.length := by
    have := (List.getElem?_eq_some_iff.mp (Fn1.at_eq (f := f))).1
    omega
  walk_at "gg"
  refine g_T (decide_eq_true (by rw [List.length_map]; omega)) ?_
  walk_at "gg"
  by_cases hjl : j < f.things.length
  · obtain ⟨x, hx⟩ : ∃ x, f.things[j]? = some x := ⟨_, List.getElem?_eq_getElem hjl⟩
    have hxn := hf.th x (List.mem_of_getElem? hx)
    have hdl := dot_len hxn
    have hat : ∀ {H : Hp} {Q : VK}, H wl = some (.lst (f.words.map V.str)) → Q (.str ("." ++ x)) H → rIxG K w (.ref wl) (.int ((1 + j : Nat) : Int)) H Q := fun h q =>
      g_ixL (.of h) (v := .str ("." ++ x)) (atI_of (by omega) (by rw [Int.toNat_natCast, List.getElem?_map, Fn1.at_thing hx]; rfl)) q
    refine hat ew3 ?_
    walk_at "gg"
    refine ⟨_, _, rfl, by omega, fun H4 s4 => ?_⟩
    rw [mark_dot hxn]
    walk_at "gg"
    refine g_T (decide_eq_true (by rw [List.length_map, List.length_take]; omega)) ?_
    refine g_turn ?_
    have e4 := s4 _ _ e3
    have ew4 := s4 _ _ ew3
    walk_at "gg"
    refine hat ew4 ?_
    walk_at "gg"
    refine g_slS (by show _ ≤ 16777216; omega) ?_
    rw [cut_dot]
    walk_at "gg"
    refine g_append e4 (by rw [List.length_map, List.length_take]; show _ < 16777216; omega) fun H5 e5 c5 => ?_
    walk_at "gg"
    refine ⟨f.things.length - (j + 1), by omega, j + 1, rfl, by omega, ?_, ?_, c3.trans ((Chg.same s4).trans c5)⟩
    · rw [show (((1 + j : Nat) : Int) + 1) = ((1 + (j + 1) : Nat) : Int) from by omega]
    · rw [e5, List.take_add_one, hx]
      simp
  · have hje : j = f.things.length := by omega
    subst hje
    have hat : ∀ {H : Hp} {Q : VK}, H wl = some (.lst (f.words.map V.str)) → Q (.str "=") H → rIxG K w (.ref wl) (.int ((1 + f.things.length : Nat) : Int)) H Q := fun h q =>
      g_ixL (.of h) (v := .str "=") (atI_of (by omega) (by rw [Int.toNat_natCast, List.getElem?_map, Fn1.at_eq]; rfl)) q
    refine hat ew3 ?_
    walk_at "gg"
    refine ⟨_, _, rfl, by decide, fun H4 s4 => ?_⟩
    rw [not_mark_eq]
    walk_at "gg"
    have e4 := s4 _ _ e3
    have ew4 := s4 _ _ ew3
    rw [List.take_length] at e4
    walk_at "gg"
    refine g_F (decide_eq_false (by rw [List.length_map]; omega)) ?_
    walk_at "gg"
    refine hat ew4 ?_
    walk_at "gg"
    rename_i t5 H5 n5 e5 s5
    refine ⟨wl, f.words, 1 + f.things.length + 1, row, f.body, ?_, s5 _ _ ew4, by omega, Fn1.behind, hf.body.good, hf.body.size, fun v H6 tv s6 => ?_⟩
    · rfl
    walk_at "gg"
    rename_i t7 H7 n7 e7 s7
    have s57 := s6.trans s7
    refine q _ H7 ?_ ?_
    · refine .tup e7 (.cons (.str _) (.cons (.tup (s57 _ _ e5) ?_) (.one (tv.mono (Same.tk s7)))))
      exact Tps.strs _
    · exact Same.chg s02 (s1.free nn) (c3.trans (Chg.same (s4.trans (s5.trans s57))))
theorem okws_good {p : Part} (h : p.good) : ∀ w ∈ p.words, okw w := by
  obtain ⟨⟨fs, sc, h1⟩, _⟩ := h
  exact Part.okws h1
theorem Prog.bd.okws {P : Prog} (h : P.bd) : ∀ r ∈ P.wrows, r ≠ [] ∧ ∀ w ∈ r, okw w := by
  intro r hr
  rcases List.mem_append.mp hr with hr | hr
  · obtain ⟨f, hf, rfl⟩ := List.mem_map.mp hr
    have hf := h.fs f hf
    refine ⟨by simp [Fn1.words], fun w hw => ?_⟩
    rcases List.mem_cons.mp hw with rfl | hw
    · exact okw_name hf.nm
    · rcases List.mem_append.mp hw with hw | hw
      · obtain ⟨x, hx, rfl⟩ := List.mem_map.mp hw
        exact okw_dot (hf.th x hx)
      · rcases List.mem_cons.mp hw with rfl | hw
        · exact okw_dec (by decide)
        · exact okws_good hf.body.good w hw
  · rw [List.mem_singleton.mp hr]
    refine ⟨by simp, fun w hw => ?_⟩
    rcases List.mem_cons.mp hw with rfl | hw
    · exact okw_dec (by decide)
    · exact okws_good h.asked.good w hw
/-- a program's text is read: the program, or the refusal that is due -/
def spReadX (K : PySem.W.Frag) : Sp := fun vs H Q E => ∃ (P : Prog), vs = [.str P.text] ∧ P.bd ∧ (lookM P = none → ∀ (v : V) (H' : Hp), Tp H' v P.data → Same H H' → Q v H') ∧ ∀ c x, lookM P = some (c, x) → Raised K c x E H
theorem pure_readX {K : PySem.W.Frag} {w : World} : PureOkX 1 (spReadX K) (tx_read K w (spReadPart K) (spReadFnB K) (spLookedX K)) 7 := by
  refine ⟨fun vs H Q E ⟨_, e, _⟩ => by rw [e]; rfl, ?_⟩
  rintro vs H Q E ⟨P, rfl, hP, q, qe⟩
  show tx_read K w _ _ _ E _ [some (.str P.text), none, none, none, none, none, none] H
  unfold tx_read
  obtain ⟨hr9, hrs⟩ := hP.rows
  have hfew := hP.few
  have hokw := hP.okws
  have hne : P.wrows ≠ [] := by simp [Prog.wrows]
  have htl : P.text.length ≤ 11781 * 9 := by
    have h1 := join_len (y := "\n") (l := P.wrows.map (Txt.join " ")) hP.joined
    rw [List.length_map, show ("\n" : Str).length = 1 from by decide] at h1
    exact Nat.le_trans h1 (Nat.mul_le_mul_left _ hr9)
  walk_at "gg"
  rename_i fl H1 n1 e1 s1
  refine ⟨_, _, rfl, rfl, by decide, by show P.text.length + 2 ≤ 16777216; omega, fun rl H2 n2 e2 s2 => ?_⟩
  rw [show Txt.split P.text "\n" = P.wrows.map (Txt.join " ") from split_rows hne fun r hr => (hokw r hr).2] at e2
  walk_at "gg"
  refine g_enum ?_
  walk_at "gg"
  refine ⟨rl, _, rfl, .of e2, ?_⟩
  have hwr : P.wrows.length = P.fs.length + 1 := by simp [Prog.wrows]
  have e12 := s2 _ _ e1
  have hfr : rl ≠ fl := (ne_of_none e1 n2).symm
  refine for_enumL (xs := (P.wrows.map (Txt.join " ")).map V.str) (fun i σ H' => ∃ (x4 x5 x6 : Option V) (u : V) (us : List V), σ = [some (.str P.text), some (.ref fl), some u, some (.ref rl), x4, x5, x6] ∧ (i ≤ P.fs.length → u = .non) ∧ (i = P.fs.length + 1 → Tp H' u P.asked.data) ∧
    H' fl = some (.lst us) ∧ Tps H' us ((P.fs.take i).map Fn1.data) ∧ Chg fl H2 H') (fun i σ H' ⟨_, _, _, _, _, _, _, _, _, _, c⟩ => c _ _ hfr e2) ⟨none, none, none, .non, [], rfl, fun _ => rfl, fun h => absurd h (by omega), e12, .nil, .refl⟩ ?_ ?_
  · rintro i x σ H3 T H4 hx ⟨x4, x5, x6, u, us, rfl, hu1, hu2, e3, tus, c3⟩ nT eT s4
    rw [List.getElem?_map, List.getElem?_map] at hx
    obtain ⟨rt, hrt, rfl⟩ := Option.map_eq_some_iff.mp hx
    obtain ⟨r, hr, rfl⟩ := Option.map_eq_some_iff.mp hrt
    have hrm := List.mem_of_getElem? hr
    obtain ⟨hr1, hr2⟩ := hrs r hrm
    obtain ⟨hk1, hk2⟩ := hokw r hrm
    have hil := (List.getElem?_eq_some_iff.mp hr).1
    have hul : us.length ≤ i := by rw [tus.length, List.length_map, List.length_take]; omega
    refine g_un2 eT ?_
    dsimp only [List.set]
    walk_at "gg"
    have hjs := join_small hr1 hr2
    refine ⟨_, _, rfl, rfl, by decide, by show _ + 2 ≤ 16777216; omega, fun wl H5 n5 e5 s5 => ?_⟩
    rw [split_words hk1 hk2] at e5
    rw [hu1 (by omega)]
    walk_at "gg"
    have s35 := s4.trans s5
    by_cases hif : i < P.fs.length
    · have hrf : ∃ f, P.fs[i]? = some f ∧ r = f.words := by
        have h1 := hr
        unfold Prog.wrows at h1
        rw [List.getElem?_append_left (by rw [List.length_map]; exact hif), List.getElem?_map] at h1
        obtain ⟨f, h2, h3⟩ := Option.map_eq_some_iff.mp h1
        exact ⟨f, h2, h3.symm⟩
      obtain ⟨f, hf, rfl⟩ := hrf
      have hff := hP.fs f (List.mem_of_getElem? hf)
      refine .inl ⟨rfl, ?_⟩
      walk_at "gg"
      refine g_F (decide_eq_false (name_q hff.nm)) ?_
      have e35 := s35 _ _ e3
      walk_at "gg"
      refine g_F (decide_eq_false (by omega)) ?_
      walk_at "gg"
      refine ⟨wl, _, f, rfl, e5, hff, fun v H6 tv s6 => ?_⟩
      have e36 := s6 _ _ e35
      walk_at "gg"
      refine g_append e36 (by show _ < 16777216; omega) fun H7 e7 c7 => ?_
      have k36 : Tk H3 H6 := Same.tk (s35.trans s6)
      refine ⟨_, _, _, .non, _, rfl, fun _ => rfl, fun h => absurd h (by omega), e7, ?_, c3.trans ((Chg.same (s35.trans s6)).trans c7)⟩
      rw [List.take_add_one, hf, Option.toList, List.map_append]
      exact ((tus.mono k36).mono (c7.tkl e36)).append (.one (tv.mono (c7.tkl e36)))
    · have hil' : i = P.fs.length := by omega
      subst hil'
      have hrf : r = ("?" : Str) :: P.asked.words := by
        have h1 := hr
        unfold Prog.wrows at h1
        rw [List.getElem?_append_right (by rw [List.length_map]; exact Nat.le_refl _), List.length_map, Nat.sub_self] at h1
        exact (Option.some.inj h1).symm
      subst hrf
      have e35 := s35 _ _ e3
      refine .inl ⟨rfl, ?_⟩
      walk_at "gg"
      refine ⟨wl, _, 1, _, P.asked, rfl, e5, by omega, rfl, hP.asked.good, hP.asked.size, fun v H6 tv s6 => ?_⟩
      walk_at "gg"
      refine ⟨_, _, _, v, us, rfl, fun h => absurd h (by omega), fun _ => tv, s6 _ _ e35, ?_, c3.trans (Chg.same (s35.trans s6))⟩
      rw [List.take_of_length_le (by omega)]
      rw [List.take_length] at tus
      exact tus.mono (Same.tk (s35.trans s6))
  · rintro σ H3 ⟨x4, x5, x6, u, us, rfl, hu1, hu2, e3, tus, c3⟩
    rw [List.length_map, List.length_map, hwr] at hu2 tus
    have tu := hu2 rfl
    rw [List.take_of_length_le (by omega)] at tus
    obtain ⟨ua, uxs, rfl, eu, _⟩ := tu.part
    walk_at "gg"
    refine .inl ⟨rfl, ?_⟩
    walk_at "gg"
    rename_i t4 H4 n4 e4 s4 t5 H5 n5 e5 s5
    have s35 := s4.trans s5
    have tP : Tp H5 (.ref t5) P.data := .tup e5 (.cons (.tup (s5 _ _ e4) (tus.mono (Same.tk s35))) (.one (tu.mono (Same.tk s35))))
    have s05 : Same H H5 := Same.chg s1 n1 ((Chg.same s2).trans (c3.trans (Chg.same s35)))
    refine ⟨_, P.data, rfl, tP.gq hP.sh, fun hb => (by rw [builtM_true hP] at hb; cases hb), fun _ => ⟨P, rfl, hP, fun hl H6 s6 => ?_, fun c x hl => (qe c x hl).mono s05⟩⟩
    exact q hl _ H6 (tP.mono (Same.tk s6)) (s05.trans s6)

/-! ### k07: lets within lets drawn -/
theorem letter_in {s : Str} {y : Int} (h0 : 0 ≤ y) (h1 : y < s.cps.toList.length) (hs : ∀ c ∈ s.cps.toList, 97 ≤ c ∧ c < 123) : ∃ c, atI s.cps.toList y = some c ∧ isName ⟨#[c]⟩ := by
  obtain ⟨c, e, hm, _⟩ := atI_in h0 h1
  refine ⟨c, e, by show 1 ≤ 1; decide, by show 1 ≤ 8; decide, fun d hd => ?_⟩
  have : d = c := by simpa using hd
  rw [this]
  exact hs c hm
/-- the pen, and the list of what is left -/
structure Lf (H : Hp) (pen L ll : Addr) (ls : List Str) : Prop where
  pe : PenAt H pen L
  el : H ll = some (.lst (ls.map V.str))
  nl : ∀ x ∈ ls, isName x
  lp : ll ≠ pen
  lL : L ≠ ll
section
variable {H H' H1 : Hp} {pen L ll kl b : Addr} {ls ks : List Str} {xs : List V}
theorem Lf.same (h : Lf H pen L ll ls) (s : Same H H') : Lf H' pen L ll ls := ⟨h.pe.same s, s _ _ h.el, h.nl, h.lp, h.lL⟩
theorem Lf.draw (h : Lf H pen L ll ls) (p : PenAt H' pen L) (c : Chg pen H H') : Lf H' pen L ll ls := ⟨p, c _ _ h.lp h.el, h.nl, h.lp, h.lL⟩
theorem Lf.set {ls' : List Str} (h : Lf H pen L ll ls) (e : H' ll = some (.lst (ls'.map V.str))) (n : ∀ x ∈ ls', isName x) (c : Chg ll H H') : Lf H' pen L ll ls' := ⟨h.pe.chg c h.lp.symm h.lL, e, n, h.lp, h.lL⟩
theorem Lf.oth (h : Lf H pen L ll ls) (c : Chg b H H') (n1 : pen ≠ b) (n2 : L ≠ b) (n3 : ll ≠ b) : Lf H' pen L ll ls := ⟨h.pe.chg c n1 n2, c _ _ n3 h.el, h.nl, h.lp, h.lL⟩
theorem Lf.free (h : Lf H pen L ll ls) (hb : H b = none) : pen ≠ b ∧ L ≠ b ∧ ll ≠ b := ⟨(PenAt.ne h.pe hb).1, (PenAt.ne h.pe hb).2, ne_of_none h.el hb⟩
theorem Lf.tk (h : Lf H pen L ll ls) (c : Chg2 pen ll H H') : Tk H H' := fun b xs e => c b _
  (fun z => (by obtain ⟨ns, a, x, hp, _⟩ := h.pe; rw [z, hp] at e; cases e)) (fun z => (by rw [z, h.el] at e; cases e)) e
theorem Chg2.refl : Chg2 pen ll H H := fun _ _ _ _ e => e
theorem Chg2.trans (h : Chg2 pen ll H H1) (h' : Chg2 pen ll H1 H') : Chg2 pen ll H H' := fun b o n1 n2 e => h' b o n1 n2 (h b o n1 n2 e)
theorem Chg2.same (s : Same H H') : Chg2 pen ll H H' := fun b o _ _ e => s b o e
theorem Chg2.ofp (c : Chg pen H H') : Chg2 pen ll H H' := fun b o n1 _ e => c b o n1 e
theorem Chg2.ofl (c : Chg ll H H') : Chg2 pen ll H H' := fun b o _ n2 e => c b o n2 e
end
def spName7 : Sp := fun vs H Q _ => ∃ (pen L ll : Addr) (ls : List Str), vs = [.ref pen, .ref ll] ∧ Lf H pen L ll ls ∧
  ∀ (x : Str) (ls' : List Str) H', isName x → Lf H' pen L ll ls' → Chg2 pen ll H H' → Q (.str x) H'
theorem pure_name7 {K : PySem.W.Frag} {w : World} : PureOk 2 spName7 (t_law_name K w spDraw) 2 := by
  refine ⟨fun vs H Q E ⟨_, _, _, _, e, _⟩ => by rw [e]; rfl, ?_⟩
  rintro vs H Q E ⟨pen, L, ll, ls, rfl, hf, q⟩
  show t_law_name K w _ _ [some (.ref pen), some (.ref ll)] H
  unfold t_law_name
  have el0 := hf.el
  walk_at "gg"
  rename_i l1 H1 n1 e1 s1
  have f1 := hf.same s1
  refine g_cutH (fun H' => Lf H' pen L ll ls ∧ Chg2 pen ll H H') (B := ?B) (fun rest => ?f) ?b
  case f =>
    refine g_ite (fun hne => ?_) (fun _ => ?_)
    · walk_at "gg"
      refine g_draw (L := L) f1.pe (by decide) (by decide) fun y H2 y0 y1 hP2 c2 => ?_
      have f2 := f1.draw hP2 c2
      have c02 : Chg2 pen ll H H2 := Chg2.trans (.same s1) (.ofp c2)
      walk_at "gg"
      refine g_ite (fun _ => ?_) (fun _ => ?_)
      · obtain ⟨su, x, rfl⟩ : ∃ su x, ls = su ++ [x] := by
          have : ls ≠ [] := by rintro rfl; simp at hne
          exact ⟨ls.dropLast, ls.getLast this, (List.dropLast_concat_getLast this).symm⟩
        have e2 := f2.el
        rw [List.map_append] at e2
        walk_at "go"
        refine g_tyl (.of e2) ?_
        refine g_pop e2 fun H3 e3 c3 => ?_
        exact q x su H3 (hf.nl x (List.mem_append.mpr (.inr List.mem_cons_self))) (f2.set e3 (fun y hy => hf.nl y (List.mem_append.mpr (.inl hy))) c3) (c02.trans (.ofl c3))
      · refine g_next ?_
        exact rest H2 ⟨f2, c02⟩
    · obtain ⟨H2, h2⟩ : ∃ H2, H2 = H1 := ⟨_, rfl⟩
      rw [← h2]
      refine g_F rfl ?_
      refine g_next ?_
      exact rest H2 ⟨by rw [h2]; exact f1, by rw [h2]; exact .same s1⟩
  case b =>
    rintro H2 ⟨f2, c2⟩
    walk_at "gg"
    refine g_draw (L := L) f2.pe (by decide) (by decide) fun y H3 y0 y1 hP3 c3 => ?_
    obtain ⟨c, hc, hn⟩ := letter_in (s := "abcdefgh") y0 y1 (by decide)
    refine g_ixS (by decide) hc ?_
    exact q _ ls H3 hn (f2.draw hP3 c3) (c2.trans (.ofp c3))
structure LIn (H : Hp) (pen L ll kl : Addr) (ls ks : List Str) : Prop where
  f : Lf H pen L ll ls
  ek : H kl = some (.lst (ks.map V.str))
  nk : ∀ x ∈ ks, isName x
  kp : kl ≠ pen
  kn : kl ≠ ll
section
variable {H H' H1 : Hp} {pen L ll kl b : Addr} {ls ks ls' : List Str}
theorem LIn.same (h : LIn H pen L ll kl ls ks) (s : Same H H') : LIn H' pen L ll kl ls ks := ⟨h.f.same s, s _ _ h.ek, h.nk, h.kp, h.kn⟩
theorem LIn.go (h : LIn H pen L ll kl ls ks) (f : Lf H' pen L ll ls') (c : Chg2 pen ll H H') : LIn H' pen L ll kl ls' ks := ⟨f, c _ _ h.kp h.kn h.ek, h.nk, h.kp, h.kn⟩
theorem LIn.draw (h : LIn H pen L ll kl ls ks) (p : PenAt H' pen L) (c : Chg pen H H') : LIn H' pen L ll kl ls ks := h.go (h.f.draw p c) (.ofp c)
theorem LIn.oth (h : LIn H pen L ll kl ls ks) (c : Chg b H H') (n1 : pen ≠ b) (n2 : L ≠ b) (n3 : ll ≠ b) (n4 : kl ≠ b) : LIn H' pen L ll kl ls ks := ⟨h.f.oth c n1 n2 n3, c _ _ n4 h.ek, h.nk, h.kp, h.kn⟩
end
theorem Rows.app_shape : ∀ {r s : Rows}, r.shape → s.shape → (r.app s).shape
  | .nil, s, _, h => h
  | .cons x a r, s, h, h2 => ⟨h.1, Rows.app_shape h.2 h2⟩
def spLetsIn (m : Nat) : Sp := fun vs H Q _ => ∃ (pen L ll kl : Addr) (ls ks : List Str) (D : Int), vs = [.ref pen, .int D, .ref ll, .ref kl] ∧ LIn H pen L ll kl ls ks ∧ (ks.length : Int) + 4 * D ≤ 60 ∧ 0 ≤ D ∧ D.toNat < m ∧
  ∀ (v : V) (p : Part) (ls' : List Str) H', Tp H' v p.data → p.shape → Lf H' pen L ll ls' → Chg2 pen ll H H' → Q v H'
theorem pure_letsin {K : PySem.W.Frag} {w : World} {m : Nat} : PureOk 4 (spLetsIn (m + 1)) (t_law_lets_in K w spDraw (spLetsIn m) spName7) 11 := by
  refine ⟨fun vs H Q E ⟨_, _, _, _, _, _, _, e, _⟩ => by rw [e]; rfl, ?_⟩
  rintro vs H Q E ⟨pen, L, ll, kl, ls, ks, D, rfl, g, hks, hD0, hDm, q⟩
  show t_law_lets_in K w _ _ _ _ [some (.ref pen), some (.int D), some (.ref ll), some (.ref kl), none, none, none, none, none, none, none] H
  unfold t_law_lets_in
  walk_at "gg"
  refine g_draw (L := L) g.f.pe (by decide) (by decide) fun way H1 w0 w1 hP1 c1 => ?_
  have g1 := g.draw hP1 c1
  have c01 : Chg2 pen ll H H1 := .ofp c1
  walk_at "gg"
  refine g_cut (B := ?B) ?f ?b
  case f =>
    intro tail
    refine g_ite (fun _ => ?_) (fun hD => ?_)
    · refine g_T rfl ?_
      exact tail.out
    walk_at "gg"
    refine g_ite (fun _ => ?_) (fun _ => ?_)
    · exact tail.out
    have hD1 : 1 ≤ D := by have := of_decide_eq_false hD; omega
    clear tail
    have hDm1 : (D - 1).toNat < m := by omega
    have h0m : (0 : Int).toNat < m := by omega
    walk_at "gg"
    by_cases hw : way = 1
    · refine g_T (decide_eq_true hw) ?_
      walk_at "gg"
      refine ⟨pen, L, ll, kl, ls, ks, D - 1, rfl, g1, by omega, by omega, hDm1, fun v2 p2 ls2 H2 t2 sh2 f2 c2 => ?_⟩
      have g2 := g1.go f2 c2
      walk_at "gg"
      refine ⟨pen, L, ll, kl, ls2, ks, 0, rfl, g2, by omega, by decide, h0m, fun v3 p3 ls3 H3 t3 sh3 f3 c3 => ?_⟩
      walk_at "gg"
      rename_i b4 H4 n4 e4 s4
      refine q (.ref b4) (.two .plus p2 p3) ls3 H4 ?_ ⟨sh2, sh3⟩ (f3.same s4) (c01.trans (c2.trans (c3.trans (.same s4))))
      exact .tup e4 (.cons (.str _) (.cons ((t2.mono (f2.tk c3)).mono (Same.tk s4)) (.one (t3.mono (Same.tk s4)))))
    refine g_F (decide_eq_false hw) ?_
    walk_at "gg"
    refine g_draw (L := L) g1.f.pe (by decide) (by decide) fun m0 H2 m00 m01 hP2 c2 => ?_
    have g2 := g1.draw hP2 c2
    have c02 := c01.trans (.ofp c2)
    obtain ⟨many, hmany, hm1, hm4⟩ : ∃ many : Nat, 1 + m0 = (many : Int) ∧ 1 ≤ many ∧ many ≤ 4 := ⟨(1 + m0).toNat, (Int.toNat_of_nonneg (by omega)).symm, by omega, by omega⟩
    clear c1 c2 g1 hP1 hP2 c01
    walk_at "gg"
    rw [hmany]
    refine g_isrng (by omega) (by omega) fun dn hdn => ?_
    obtain ⟨fd1, fd2, fd3⟩ := g2.f.free hdn
    have fd4 : kl ≠ dn := ne_of_none g2.ek hdn
    refine lc_any many (fun i acc H' => ∃ ns ls' : List Str, acc = ns.map V.str ∧ ns.length = i ∧ (∀ x ∈ ns, isName x) ∧ LIn H' pen L ll kl ls' ks ∧ Chg2 pen ll H2 H') hdn
      (fun H' _ s => ⟨[], ls, rfl, rfl, by simp, g2.same s, .same s⟩) (fun i acc H' hi _ => hi) (fun acc H' _ => Nat.le_refl _) ?_ ?_
    · rintro i x acc _ H3 hi hl ⟨ns, ls3, rfl, hns, hnn, g3, c3⟩ hd3 ⟨rfl, rfl⟩
      walk_at "gg"
      refine ⟨rfl, ?_⟩
      walk_at "gg"
      refine ⟨pen, L, ll, ls3, rfl, g3.f, fun nm ls4 H4 hnm f4 c4 => ?_⟩
      have hd4 := c4 _ _ fd1.symm fd3.symm hd3
      refine lc_step hd4 hl (by show _ < 16777216; omega) fun H5 e5 c5 => ?_
      refine ⟨ns ++ [nm], ls4, by simp, by simp [hns], fun x hx => ?_, (g3.go f4 c4).oth c5 fd1 fd2 fd3 fd4, fun b o n1 n2 e => c5 b o (ne_of_none e hdn) (c4 b o n1 n2 (c3 b o n1 n2 e))⟩
      rcases List.mem_append.mp hx with h | h
      · exact hnn x h
      · rw [List.mem_singleton.mp h]
        exact hnm
    rintro acc H3 hd3 ⟨ns, ls3, rfl, hns, hnn, g3, c3⟩
    have c03 := c02.trans c3
    clear g2 c02 c3
    have ek3 := g3.ek
    walk_at "go"
    refine g_addL ek3 hd3 (by rw [List.length_map, List.length_map, hns]; show _ ≤ 16777216; omega) fun k4 H4 n4 e4 s4 => ?_
    rw [← List.map_append] at e4
    have g4 := g3.same s4
    obtain ⟨fk1, fk2, fk3⟩ := g3.f.free n4
    walk_at "go"
    intro l5 H5 n5 e5 s5
    walk_at "go"
    have g5 := g4.same s5
    refine g_draw (L := L) g5.f.pe (by decide) (by decide) fun y H6 y0 y1 hP6 c6 => ?_
    have g6 := g5.draw hP6 c6
    have nl5 := (g4.f.free n5).1.symm
    have e56 := c6 _ _ nl5 e5
    have e46 := c6 _ _ fk1.symm (s5 _ _ e4)
    have hd6 := c6 _ _ fd1.symm (s5 _ _ (s4 _ _ hd3))
    walk_at "go"
    obtain ⟨kx, kxs, hkx, g6x, hkxl⟩ : ∃ (kx : Addr) (kxs : List Str), atI [V.ref k4, V.ref kl] (if decide (y = 0) = true then 1 else 0) = some (.ref kx) ∧ LIn H6 pen L ll kx ls3 kxs ∧ kxs.length ≤ ks.length + 4 := by
      by_cases hy : y = 0
      · rw [if_pos (decide_eq_true hy)]
        exact ⟨kl, ks, rfl, g6, by omega⟩
      · rw [if_neg (by rw [decide_eq_false hy]; decide)]
        refine ⟨k4, ks ++ ns, rfl, ⟨g6.f, e46, fun x hx => ?_, fk1.symm, fk3.symm⟩, by rw [List.length_append, hns]; omega⟩
        rcases List.mem_append.mp hx with h | h
        · exact g6.nk x h
        · exact hnn x h
    refine g_ixL (.of e56) hkx ?_
    have c06 : Chg2 pen ll H H6 := c03.trans (.trans (.same (s4.trans s5)) (.ofp c6))
    clear e56 hkx e46 e5 n5 e4 n4 s4 s5 c6 g5 g4 g3 hd3 ek3 c03 y0 y1 hP6
    walk_at "go"
    intro rl H7 nr er s7
    have g7 := g6x.same s7
    obtain ⟨fr1, fr2, fr3⟩ := g6.f.free nr
    have fr4 : kx ≠ rl := ne_of_none g6x.ek nr
    have hd7 := s7 _ _ hd6
    have fr5 : dn ≠ rl := ne_of_none hd6 nr
    walk_at "go"
    refine g_seqL ?_
    walk_at "go"
    refine g_isL (.of hd7) ?_
    refine for_any ns.length (fun i σ H' => ∃ (x6 x8 : Option V) (vs : List V) (r : Rows) (ls' : List Str), σ = [some (.ref pen), some (.int D), some (.ref ll), some (.ref kl), some (.int way), none, x6, some (.ref dn), x8, some (.ref kx), some (.ref rl)] ∧
        H' rl = some (.lst vs) ∧ H' dn = some (.lst (ns.map V.str)) ∧ Tps H' vs r.datas ∧ r.names = ns.take i ∧ LIn H' pen L ll kx ls' kxs ∧ r.shape ∧ vs.length = i ∧ (∀ b o, b ≠ pen → b ≠ ll → b ≠ rl → H7 b = some o → H' b = some o))
      ⟨none, none, [], .nil, ls3, rfl, er, hd7, .nil, by simp [Rows.names], g7, trivial, rfl, fun b o _ _ _ e => e⟩
      (fun i σ H' hi ⟨_, _, _, _, _, _, _, hd', _⟩ => ⟨_, _, .of hd', List.getElem?_eq_getElem (by rw [List.length_map]; exact hi)⟩) (fun σ H' ⟨_, _, _, _, _, _, _, hd', _⟩ => ⟨_, .of hd', by rw [List.length_map]; exact Nat.le_refl _⟩) ?_ ?_
    · rintro i x σ _ H8 hi ⟨x6, x8, vs, r, ls8, rfl, hr8, hd8, tv, hnm, g8, sh8, hvl, c8⟩ ⟨rfl, hx⟩
      obtain ⟨nm, hnmi, rfl⟩ : ∃ nm, ns[i]? = some nm ∧ x = .str nm := by
        have h1 := hx _ (.of hd8)
        rw [List.getElem?_map] at h1
        obtain ⟨nm, h2, h3⟩ := Option.map_eq_some_iff.mp h1
        exact ⟨nm, h2, h3.symm⟩
      walk_at "go"
      refine g_tyl (.of hr8) ?_
      walk_at "go"
      intro l9 H9 n9 e9 s9
      walk_at "go"
      have g9 := g8.same s9
      refine g_draw (L := L) g9.f.pe (by decide) (by decide) fun z H10 z0 z1 hP10 c10 => ?_
      have g10 := g9.draw hP10 c10
      have e10 := c10 _ _ (g8.f.free n9).1.symm e9
      walk_at "go"
      obtain ⟨D', hD', hD'0, hD'm, hD's⟩ : ∃ D' : Int, atI [V.int 0, V.int (D - 1)] (if decide (z = 0) = true then 1 else 0) = some (.int D') ∧ 0 ≤ D' ∧ D'.toNat < m ∧ D' ≤ D - 1 := by
        by_cases hz : z = 0
        · rw [if_pos (decide_eq_true hz)]
          exact ⟨D - 1, rfl, by omega, hDm1, Int.le_refl _⟩
        · rw [if_neg (by rw [decide_eq_false hz]; decide)]
          exact ⟨0, rfl, by decide, h0m, by omega⟩
      refine g_ixL (.of e10) hD' ?_
      have c810 : Chg2 pen ll H8 H10 := Chg2.trans (.same s9) (.ofp c10)
      walk_at "go"
      refine ⟨pen, L, ll, kx, ls8, kxs, D', rfl, g10, by omega, hD'0, hD'm, fun v2 p2 ls2 H11 t11 sh11 f11 c11 => ?_⟩
      walk_at "go"
      intro b12 H12 n12 e12 s12
      walk_at "go"
      have c812 : Chg2 pen ll H8 H12 := c810.trans (c11.trans (.same s12))
      have k812 : Tk H8 H12 := g8.f.tk c812
      have hr12 := c812 _ _ fr1.symm fr3.symm hr8
      refine g_append hr12 (by rw [hvl]; show _ < 16777216; omega) fun H13 e13 c13 => ?_
      walk_at "go"
      have k13 : Tk H12 H13 := c13.tkl hr12
      refine ⟨_, _, vs ++ [.ref b12], r.app (.cons nm p2 .nil), ls2, rfl, e13, c13 _ _ fr5 (c812 _ _ fd1.symm fd3.symm hd8), ?_, ?_, (g8.go (f11.same s12) c812).oth c13 fr1 fr2 fr3 fr4, ?_, by rw [List.length_append, hvl]; rfl, fun b o n1 n2 n3 e => c13 b o n3 (c812 b o n1 n2 (c8 b o n1 n2 n3 e))⟩
      · rw [Rows.app_datas]
        refine Tps.append ((tv.mono k812).mono k13) (.one ?_)
        exact .tup (k13 _ _ e12) (.cons (.str _) (.one ((t11.mono (Same.tk s12)).mono k13)))
      · rw [Rows.app_names, hnm, List.take_add_one, hnmi]
        rfl
      · exact Rows.app_shape sh8 ⟨sh11, trivial⟩
    rintro σ H8 ⟨x6, x8, vs, r, ls8, rfl, hr8, hd8, tv, hnm, g8, sh8, hvl, c8⟩
    rw [List.take_length] at hnm
    walk_at "go"
    refine g_tupleL (.of hr8) fun t9 H9 n9 e9 s9 => ?_
    walk_at "go"
    have g9 := g8.same s9
    refine ⟨pen, L, ll, kx, ls8, kxs, D - 1, rfl, g9, by omega, by omega, hDm1, fun v2 p2 ls2 H10 t10 sh10 f10 c10 => ?_⟩
    walk_at "go"
    intro b11 H11 n11 e11 s11
    have k911 : Tk H9 H11 := (g9.f.tk c10).trans (Same.tk s11)
    refine q (.ref b11) (.letp r p2) ls2 H11 ?_ ?_ (f10.same s11) ?_
    · exact .tup e11 (.cons (.str _) (.cons (.tup (k911 _ _ e9) (tv.mono ((Same.tk s9).trans k911))) (.one (t10.mono (Same.tk s11)))))
    · refine ⟨by rw [hnm, hns]; exact hm4, ?_, by rw [hnm]; exact hnn, sh8, sh10⟩
      rw [hnm]
      rintro rfl
      rw [List.length_nil] at hns
      omega
    · intro b o n1 n2 e
      have h6 := c06 b o n1 n2 e
      exact s11 b o (c10 b o n1 n2 (s9 b o (c8 b o n1 n2 (ne_of_none h6 nr) (s7 b o h6))))
  case b =>
    have hkl : ks.length ≤ 60 := by omega
    walk_at "go"
    refine g_seqL ?_
    walk_at "go"
    refine g_isL (.of g1.ek) ?_
    refine lc_mapL g1.ek (by rw [List.length_map]; omega) (fun i y H' => ∃ x, ks[i]? = some x ∧ Tp H' y (Part.name x).data) (fun i y H H' k ⟨x, h1, h2⟩ => ⟨x, h1, h2.mono k⟩) ?_ ?_
    · intro i x H' Nx hxi s hN
      rw [List.getElem?_map] at hxi
      obtain ⟨nm, hnm, rfl⟩ := Option.map_eq_some_iff.mp hxi
      walk_at "gg"
      refine ⟨rfl, ?_⟩
      walk_at "gg"
      rename_i c5 H5 n5 e5 s5
      exact hN _ H5 s5 ⟨nm, hnm, tp_name e5⟩
    intro D2 ys2 H2 n2 e2 hy2 f2 s2
    rw [List.length_map] at hy2
    have t2 : Tps H2 ys2 ((ks.map Part.name).map Part.data) := by
      refine Tps.of_get (by rw [hy2, List.length_map, List.length_map]) fun i y hy => ?_
      obtain ⟨x, h1, h2⟩ := f2 i y hy
      exact ⟨_, by rw [List.getElem?_map, List.getElem?_map, h1]; rfl, h2⟩
    walk_at "go"
    intro b3 H3 n3 e3 s3
    walk_at "go"
    intro b4 H4 n4 e4 s4
    walk_at "go"
    intro l5 H5 n5 e5 s5
    have s25 := s3.trans (s4.trans s5)
    refine g_addL (s25 _ _ e2) e5 (by rw [hy2]; show _ + 2 ≤ 16777216; omega) fun l6 H6 n6 e6 s6 => ?_
    have s26 := s25.trans s6
    have s46 := s5.trans s6
    have t6 : Tps H6 (ys2 ++ [.ref b3, .ref b4]) ((ks.map Part.name ++ [Part.fn "f", Part.num 2]).map Part.data) := by
      rw [List.map_append]
      exact (t2.mono (Same.tk s26)).append (.cons (tp_fn (s46 _ _ (s4 _ _ e3))) (.one (tp_num (s46 _ _ e4))))
    have g6 := g1.same (s2.trans s26)
    have c06 : Chg2 pen ll H H6 := c01.trans (.same (s2.trans s26))
    have nl6 : l6 ≠ pen := ((g1.same (s2.trans s25)).f.free n6).1.symm
    clear t2 e2 n2 f2 s2 e3 n3 s3 e4 n4 s4 e5 n5 s5 s25 s26 s46 c01 g1 g c1 hP1
    have hl6 : (ys2 ++ [V.ref b3, V.ref b4]).length = ks.length + 2 := by rw [List.length_append, hy2]; rfl
    walk_at "go"
    refine g_draw (L := L) g6.f.pe (by decide) (by decide) fun y H7 y0 y1 hP7 c7 => ?_
    have g7 := g6.draw hP7 c7
    have k67 := g6.f.pe.tk c7
    obtain ⟨c, hc, hcn⟩ := letter_in (s := "abcdefgh") y0 y1 (by decide)
    refine g_ixS (by decide) hc ?_
    have e7 := c7 _ _ nl6 e6
    walk_at "go"
    intro b8 H8 n8 e8 s8
    have g8 := g7.same s8
    walk_at "go"
    refine g_draw (L := L) g8.f.pe (by decide) (by decide) fun z H9 z0 z1 hP9 c9 => ?_
    have g9 := g8.draw hP9 c9
    have k89 := g8.f.pe.tk c9
    obtain ⟨d, hd, hdn⟩ := letter_in (s := "fghi") z0 z1 (by decide)
    refine g_ixS (by decide) hd ?_
    have e9 := c9 _ _ nl6 (s8 _ _ e7)
    walk_at "go"
    intro b10 H10 n10 e10 s10
    walk_at "go"
    intro l11 H11 n11 e11 s11
    have s911 := s10.trans s11
    refine g_addL (s911 _ _ e9) e11 (by rw [hl6]; show _ + 2 ≤ 16777216; omega) fun l12 H12 n12 e12 s12 => ?_
    have s912 := s911.trans s12
    have k912 := Same.tk s912
    have t12 : Tps H12 (ys2 ++ [.ref b3, .ref b4] ++ [.ref b8, .ref b10]) ((ks.map Part.name ++ [Part.fn "f", Part.num 2] ++ [Part.name ⟨#[c]⟩, Part.fn ⟨#[d]⟩]).map Part.data) := by
      rw [List.map_append]
      refine (t6.mono (((k67.trans (Same.tk s8)).trans k89).trans k912)).append (.cons ((tp_name e8).mono (k89.trans k912)) (.one ((tp_fn e10).mono (Same.tk (s11.trans s12)))))
    have g12 := g9.same s912
    have nl12 : l12 ≠ pen := ((g9.same s911).f.free n12).1.symm
    have c012 : Chg2 pen ll H H12 := c06.trans (.trans (.ofp c7) (.trans (.same s8) (.trans (.ofp c9) (.same s912))))
    have hl12 : (ys2 ++ [V.ref b3, V.ref b4] ++ [V.ref b8, V.ref b10]).length = ks.length + 4 := by rw [List.length_append, hl6]; rfl
    walk_at "go"
    refine g_lenL (.of e12) ?_
    walk_at "go"
    refine g_draw (L := L) g12.f.pe (by rw [hl12]; omega) (by rw [hl12]; omega) fun j H13 j0 j1 hP13 c13 => ?_
    have k13 := g12.f.pe.tk c13
    obtain ⟨u, h1, _, h3⟩ := atI_in (xs := ys2 ++ [V.ref b3, V.ref b4] ++ [V.ref b8, V.ref b10]) j0 j1
    obtain ⟨dd, hdd, tu⟩ := t12.get h3
    rw [List.getElem?_map] at hdd
    obtain ⟨p, hp, rfl⟩ := Option.map_eq_some_iff.mp hdd
    refine g_ixL (.of (c13 _ _ nl12 e12)) h1 ?_
    refine q u p ls H13 (tu.mono k13) ?_ (g12.draw hP13 c13).f (c012.trans (.ofp c13))
    rcases List.mem_append.mp (List.mem_of_getElem? hp) with hp | hp
    · rcases List.mem_append.mp hp with hp | hp
      · obtain ⟨x, hx, rfl⟩ := List.mem_map.mp hp
        exact g12.nk x hx
      · simp only [List.mem_cons, List.not_mem_nil, or_false] at hp
        rcases hp with rfl | rfl
        · exact (by decide : isName "f")
        · show (2 : Int).natAbs < _
          decide
    · simp only [List.mem_cons, List.not_mem_nil, or_false] at hp
      rcases hp with rfl | rfl
      · exact hcn
      · exact hdn

/-! ### k07: programs of lets, read -/
theorem g_slAny7 {K : PySem.W.Frag} {H : Hp} {Q : VK} {a : Addr} {xs : List V} {lo hi : Option Int} (h : H a = some (.tup xs)) (q : ∀ c H' i j, H' c = some (.tup ((xs.drop i).take j)) → Same H H' → Q (.ref c) H') : rSlG K (.ref a) lo hi H Q := by
  refine .inr (.inl ⟨a, xs, rfl, .of h, fun e => ?_, fun _ c H' n e s => ?_⟩)
  · exact q a H 0 xs.length (by rw [List.drop_zero, List.take_length]; exact h) (.refl _)
  · exact q c H' _ _ e s
def spBodyOf7 : Sp := fun vs H Q _ => ∃ (pen L nl : Addr) (ts : List Str), vs = [.ref pen, .ref nl] ∧ PenAt H pen L ∧ H nl = some (.tup (ts.map V.str)) ∧ (∀ x ∈ ts, isName x) ∧ ts.length ≤ 3 ∧
  ∀ (v : V) (p : Part) H', Tp H' v p.data → p.shape → PenAt H' pen L → Chg pen H H' → Q v H'
theorem pure_bodyof7 {K : PySem.W.Frag} {w : World} : PureOk 2 spBodyOf7 (t_law_body_of K w spDraw (spLetsIn 5)) 4 := by
  refine ⟨fun vs H Q E ⟨_, _, _, _, e, _⟩ => by rw [e]; rfl, ?_⟩
  rintro vs H Q E ⟨pen, L, nl, ts, rfl, hP, en, hts, htl, q⟩
  show t_law_body_of K w _ _ _ [some (.ref pen), some (.ref nl), none, none] H
  unfold t_law_body_of
  walk_at "gg"
  rename_i l1 H1 n1 e1 s1
  have hP1 := hP.same s1
  refine g_draw (L := L) hP1 (by decide) (by decide) fun y H2 y0 y1 hP2 c2 => ?_
  have k02 : Tk H H2 := (Same.tk s1).trans (hP1.tk c2)
  have en2 := k02 _ _ en
  have fl1 := PenAt.ne hP n1
  have e2 := c2 _ _ fl1.1.symm e1
  have fr1 : H l1 = none := n1
  have c02 : Chg pen H H2 := (Chg.same s1).trans c2
  clear e1 n1 s1 c2 hP1 k02
  walk_at "gg"
  refine g_cutA (fun l H' => (∃ ls, Lf H' pen L l ls) ∧ H l = none ∧ H' nl = some (.tup (ts.map V.str)) ∧ Chg pen H H') (B := ?B) (fun rest => ?f) ?b
  case f =>
    refine g_ite (fun _ => ?_) (fun _ => ?_)
    · walk_at "go"
      refine g_seqS ?_
      walk_at "go"
      intro dn hdn
      have fd := PenAt.ne hP2 hdn
      refine lc_any ("hgfedcba" : Str).cps.size (fun i acc H' => ∃ ns : List Str, acc = ns.map V.str ∧ (∀ x ∈ ns, isName x) ∧ Same H2 H') hdn
        (fun H' _ s => ⟨[], rfl, by simp, s⟩) (fun i acc H' hi _ => hi) (fun acc H' _ => Nat.le_refl _) ?_ ?_
      · rintro i x acc H3 H4 hi hl ⟨ns, rfl, hns, s3⟩ hd3 ⟨rfl, c, hc, rfl⟩
        have hcn : isName ⟨#[c]⟩ := by
          have hm : c ∈ ("hgfedcba" : Str).cps.toList := by rw [Array.mem_toList_iff]; exact Array.mem_of_getElem? hc
          refine ⟨by show 1 ≤ 1; decide, by show 1 ≤ 8; decide, fun d hd => ?_⟩
          have : d = c := by simpa using hd
          rw [this]
          exact (by decide : ∀ c ∈ ("hgfedcba" : Str).cps.toList, 97 ≤ c ∧ c < 123) c hm
        walk_at "go"
        refine ⟨rfl, ?_⟩
        walk_at "go"
        refine g_notInT (.of (s3 _ _ en2)) ?_
        walk_at "go"
        refine g_ite (fun _ => ?_) (fun _ => ?_)
        · walk_at "go"
          refine lc_step hd3 hl (by have : ("hgfedcba" : Str).cps.size = 8 := by decide
                                    show _ < 16777216; omega) fun H5 e5 c5 => ?_
          refine ⟨ns ++ [⟨#[c]⟩], by simp, fun x hx => ?_, Same.chg s3 hdn c5⟩
          rcases List.mem_append.mp hx with h | h
          · exact hns x h
          · rw [List.mem_singleton.mp h]
            exact hcn
        · exact ⟨ns.map V.str, hd3, by omega, ns, rfl, hns, s3⟩
      · rintro acc H3 hd3 ⟨ns, rfl, hns, s3⟩
        have fr : H dn = none := by
          cases h : H dn with
          | none => rfl
          | some o => rw [c02 _ _ fd.1.symm h] at hdn; cases hdn
        exact rest dn H3 ⟨⟨ns, hP2.same s3, hd3, hns, fd.1.symm, fd.2⟩, fr, s3 _ _ en2, c02.trans (.same s3)⟩
    · obtain ⟨l, hl⟩ : ∃ l, l = l1 := ⟨_, rfl⟩
      obtain ⟨H3, h3⟩ : ∃ H3, H3 = H2 := ⟨_, rfl⟩
      rw [← h3, ← hl]
      refine g_next ?_
      exact rest l H3 (by rw [h3, hl]; exact ⟨⟨[], hP2, e2, by simp, fl1.1.symm, fl1.2⟩, fr1, en2, c02⟩)
  case b =>
    rintro l H3 ⟨⟨ls, f3⟩, frl, en3, c3⟩
    walk_at "go"
    refine g_draw (L := L) f3.pe (by decide) (by decide) fun z H4 z0 z1 hP4 c4 => ?_
    have f4 := f3.draw hP4 c4
    have en4 := (f3.pe.tk c4) _ _ en3
    walk_at "go"
    refine g_listT (.of en4) fun kl H5 n5 e5 s5 => ?_
    have f5 := f4.same s5
    obtain ⟨fk1, fk2, fk3⟩ := f4.free n5
    walk_at "go"
    refine ⟨pen, L, l, kl, ls, ts, 1 + z, rfl, ⟨f5, e5, hts, fk1.symm, fk3.symm⟩, by omega, by omega, by omega, fun v p ls' H6 t6 sh6 f6 c6 => ?_⟩
    refine q v p H6 t6 sh6 f6.pe fun b o n e => ?_
    exact c6 b o n (fun z => by rw [z, frl] at e; cases e) (s5 b o (c4 b o n (c3 b o n e)))
/-- programs whose parts are shaped, their functions' names unlike -/
structure P7 (P : Prog) : Prop where
  nd : P.names.Nodup
  sh : shB P.data = true
def spNamedProg : Sp := fun vs H Q _ => ∃ (pen L : Addr), vs = [.ref pen] ∧ PenAt H pen L ∧ ∀ (v : V) (P : Prog) H', Tp H' v P.data → P7 P → PenAt H' pen L → Q v H'
theorem abc_ok : ∀ x ∈ [("a" : Str), "b", "c"], isName x := by decide
theorem fg_ok : ∀ x ∈ [("f" : Str), "g"], isName x := by decide
theorem pure_namedprog {K : PySem.W.Frag} {w : World} : PureOk 1 spNamedProg (t_law_named_program K w spDraw spBodyOf7) 4 := by
  refine ⟨fun vs H Q E ⟨_, _, e, _⟩ => by rw [e]; rfl, ?_⟩
  rintro vs H Q E ⟨pen, L, rfl, hP, q⟩
  show t_law_named_program K w _ _ _ [some (.ref pen), none, none, none] H
  unfold t_law_named_program
  walk_at "go"
  intro fl H1 n1 e1 s1
  walk_at "go"
  refine g_seqL ?_
  walk_at "go"
  intro l2 H2 n2 e2 s2
  have hP2 := (hP.same s1).same s2
  walk_at "go"
  refine g_draw (L := L) hP2 (by decide) (by decide) fun y H3 y0 y1 hP3 c3 => ?_
  walk_at "go"
  obtain ⟨k, hk, hk1, hk2⟩ : ∃ k : Nat, 1 + y = (k : Int) ∧ 1 ≤ k ∧ k ≤ 2 := ⟨(1 + y).toNat, (Int.toNat_of_nonneg (by omega)).symm, by omega, by omega⟩
  rw [hk]
  have ffl := PenAt.ne hP n1
  have ffl2 := PenAt.ne (hP.same s1) n2
  refine g_slL (.of (c3 _ _ ffl2.1.symm e2)) fun al H4 n4 e4 s4 => ?_
  rw [show ([V.str "f", V.str "g"] : List V) = [("f" : Str), "g"].map V.str from rfl, cut_to] at e4
  have hP4 := hP3.same s4
  have e14 := s4 _ _ (c3 _ _ ffl.1.symm (s2 _ _ e1))
  have nal : al ≠ fl := (ne_of_none (c3 _ _ ffl.1.symm (s2 _ _ e1)) n4).symm
  have nap : al ≠ pen := (PenAt.ne hP3 n4).1.symm
  have hgl : ([("f" : Str), "g"].take k).length = k := by rw [List.length_take]; show min k 2 = k; omega
  have hgd : ([("f" : Str), "g"].take k).Nodup := List.Sublist.nodup (List.take_sublist k _) (by decide)
  have hgn : ∀ x ∈ [("f" : Str), "g"].take k, isName x := fun x hx => fg_ok x (List.mem_of_mem_take hx)
  generalize [("f" : Str), "g"].take k = gs at e4 hgl hgd hgn
  refine g_isL (.of e4) ?_
  refine for_any k (fun i σ H' => ∃ (x2 x3 : Option V) (vs : List V) (fs : List Fn1), σ = [some (.ref pen), some (.ref fl), x2, x3] ∧ H' fl = some (.lst vs) ∧ H' al = some (.lst (gs.map V.str)) ∧ PenAt H' pen L ∧ Tps H' vs (fs.map Fn1.data) ∧ vs.length = i ∧ fs.map (·.name) = gs.take i ∧ (∀ f ∈ fs, shB f.data = true))
    ⟨none, none, [], [], rfl, e14, e4, hP4, .nil, rfl, by simp, by simp⟩
    (fun i σ H' hi ⟨_, _, _, _, _, _, e, _⟩ => ⟨_, _, .of e, List.getElem?_eq_getElem (by rw [List.length_map, hgl]; exact hi)⟩) (fun σ H' ⟨_, _, _, _, _, _, e, _⟩ => ⟨_, .of e, by rw [List.length_map, hgl]; exact Nat.le_refl _⟩) ?_ ?_
  · rintro i x σ _ H5 hi ⟨x2, x3, vs, fs, rfl, hf5, ha5, hP5, tv, hvl, hnm, hsh⟩ ⟨rfl, hx⟩
    obtain ⟨nm, hnmi, rfl⟩ : ∃ nm, gs[i]? = some nm ∧ x = .str nm := by
      have h1 := hx _ (.of ha5)
      rw [List.getElem?_map] at h1
      obtain ⟨nm, h2, h3⟩ := Option.map_eq_some_iff.mp h1
      exact ⟨nm, h2, h3.symm⟩
    walk_at "go"
    intro t6 H6 n6 e6 s6
    walk_at "go"
    refine g_draw (L := L) (hP5.same s6) (by decide) (by decide) fun z H7 z0 z1 hP7 c7 => ?_
    have k57 := (Same.tk s6).trans ((hP5.same s6).tk c7)
    walk_at "go"
    refine g_slAny7 (((hP5.same s6).tk c7) _ _ e6) fun tn H8 i0 j0 e8 s8 => ?_
    obtain ⟨ts, hts, htn, htl⟩ : ∃ ts : List Str, ([V.str "a", V.str "b", V.str "c"].drop i0).take j0 = ts.map V.str ∧ (∀ x ∈ ts, isName x) ∧ ts.length ≤ 3 :=
      ⟨([("a" : Str), "b", "c"].drop i0).take j0, by rw [List.map_take, List.map_drop]; rfl, fun x hx => abc_ok x (List.mem_of_mem_drop (List.mem_of_mem_take hx)), by rw [List.length_take, List.length_drop]; show min _ (3 - i0) ≤ 3; omega⟩
    rw [hts] at e8
    have hP8 := hP7.same s8
    have c58 : Chg pen H5 H8 := ((Chg.same s6).trans c7).trans (.same s8)
    have hf8 := c58 _ _ ffl.1.symm hf5
    have ha8 := c58 _ _ nap ha5
    walk_at "go"
    refine g_tyl (.of hf8) ?_
    walk_at "go"
    refine ⟨pen, L, tn, ts, rfl, hP8, e8, htn, htl, fun v p H9 t9 sh9 hP9 c9 => ?_⟩
    walk_at "go"
    intro b10 H10 n10 e10 s10
    walk_at "go"
    have hf10 := s10 _ _ (c9 _ _ ffl.1.symm hf8)
    refine g_append hf10 (by rw [hvl]; show _ < 16777216; omega) fun H11 e11 c11 => ?_
    walk_at "go"
    have k11 : Tk H10 H11 := c11.tkl hf10
    have k58 : Tk H5 H8 := hP5.tk c58
    have k510 : Tk H5 H10 := (k58.trans (hP8.tk c9)).trans (Same.tk s10)
    refine ⟨_, _, vs ++ [.ref b10], fs ++ [⟨nm, ts, p⟩], rfl, e11, c11 _ _ nal (s10 _ _ (c9 _ _ nap ha8)), (hP9.same s10).chg c11 ffl.1 ffl.2, ?_, by rw [List.length_append, hvl]; rfl, ?_, fun f hf => ?_⟩
    · rw [List.map_append]
      refine Tps.append ((tv.mono k510).mono k11) (.one (.tup (k11 _ _ e10) (.cons (.str _) (.cons (.tup (k11 _ _ (s10 _ _ (hP8.tk c9 _ _ e8))) (Tps.strs _)) (.one ((t9.mono (Same.tk s10)).mono k11))))))
    · rw [List.map_append, hnm, List.take_add_one, hnmi]
      rfl
    · rcases List.mem_append.mp hf with h | h
      · exact hsh f h
      · rw [List.mem_singleton.mp h]
        show (shB (.str nm) && (shsB (ts.map PyData.str) && (shB p.data && true))) = true
        rw [sh_name (hgn nm (List.mem_of_getElem? hnmi)), sh9.sh, shsB_all fun d hd => by obtain ⟨s, hs, rfl⟩ := List.mem_map.mp hd; exact sh_name (htn s hs)]
        rfl
  rintro σ H5 ⟨x2, x3, vs, fs, rfl, hf5, ha5, hP5, tv, hvl, hnm, hsh⟩
  rw [List.take_of_length_le (by omega)] at hnm
  walk_at "go"
  refine g_tupleL (.of hf5) fun t6 H6 n6 e6 s6 => ?_
  walk_at "go"
  intro t7 H7 n7 e7 s7
  have hP7 := (hP5.same s6).same s7
  walk_at "go"
  refine ⟨pen, L, t7, [], rfl, hP7, e7, by simp, by decide, fun v p H8 t8 sh8 hP8 c8 => ?_⟩
  walk_at "go"
  intro b9 H9 n9 e9 s9
  have k79 : Tk H7 H9 := (hP7.tk c8).trans (Same.tk s9)
  refine q (.ref b9) ⟨fs, p⟩ H9 ?_ ⟨?_, ?_⟩ (hP8.same s9)
  · exact .tup e9 (.cons (.tup (k79 _ _ (s7 _ _ e6)) (tv.mono ((Same.tk (s6.trans s7)).trans k79))) (.one (t8.mono (Same.tk s9))))
  · show (fs.map (·.name)).Nodup
    rw [hnm]
    exact hgd
  · show (shsB (fs.map Fn1.data) && (shB p.data && true)) = true
    rw [sh8.sh, shsB_all fun d hd => by obtain ⟨f, hf, rfl⟩ := List.mem_map.mp hd; exact hsh f hf]
    rfl

/-! ### k07: what reading tells, the law -/
theorem g_xf {a : Addr} {cls : Value} {d : Option Addr} {C : Addr} {f : Str} {te : TE} {σ : L2.St} {H : Hp} {Q : VK} (h : te σ H fun x H1 => x = .ref a ∧ cls = .ref C ∧ ∃ (dd : Addr) (fs : List (Str × V)) (v : V), d = some dd ∧ H1 dd = some (.xd fs) ∧ fs.lookup f = some v ∧ Q v H1) : tXf a cls d C f te σ H Q := h
/-- the words of what is told of what is built -/
def Told7 (P : Prog) (a b : Str) : Prop := (lookM P = none ∧ a = "" ∧ b = "") ∨ ∃ c, lookM P = some (c, b) ∧ a = wordE c
theorem told_words7 {P : Prog} (hb : P.bd) : ∃ a b : Str, Told7 P a b ∧ ∀ {H : Hp} {v : V} {Q : VK} {E : XK}, Gq H v P.data → (∀ t H', Same H H' → H' t = some (.tup [.str a, .str b]) → Q (.ref t) H') → spToldX ([v] ++ []) H Q E := by
  cases hl : lookM P with
  | none => exact ⟨"", "", .inl ⟨hl, rfl, rfl⟩, fun g q => ⟨_, P.data, rfl, g, fun h => (by rw [builtM_true hb] at h; cases h), fun _ => ⟨P, rfl, hb, fun _ t H' s e => q t H' s e, fun c x h => (by rw [hl] at h; cases h)⟩⟩⟩
  | some cx =>
    obtain ⟨c, x⟩ := cx
    exact ⟨wordE c, x, .inr ⟨c, hl, rfl⟩, fun g q => ⟨_, P.data, rfl, g, fun h => (by rw [builtM_true hb] at h; cases h), fun _ => ⟨P, rfl, hb, fun h => (by rw [hl] at h; cases h), fun c' x' h t H' s e => (by rw [hl] at h; cases h; exact q t H' s e)⟩⟩⟩
theorem Prog.bd.depth {P : Prog} (h : P.bd) : PyData.depthAll [.tuple (P.fs.map Fn1.data), P.asked.data] < 150 := by
  have h1 := h.asked.good.lay.2
  have h2 : PyData.depthAll (P.fs.map Fn1.data) ≤ 37 := depAll_of fun d hd => by
    obtain ⟨f, hf, rfl⟩ := List.mem_map.mp hd
    have h3 := (h.fs f hf).body.good.lay.2
    have h4 := depth_strs f.things
    show PyData.depth (.tuple [.str f.name, .tuple (f.things.map .str), f.body.data]) ≤ 37
    simp only [PyData.depth, PyData.depthAll]
    omega
  simp only [PyData.depth, PyData.depthAll]
  omega
theorem two_like7 {K : PySem.W.Frag} {H : Hp} {p q : Addr} {a b : Str} (e : H p = some (.tup [.str a, .str b])) (e' : H q = some (.tup [.str a, .str b])) : LkR K H (Lk K H 2) (.ref p) (.ref q) :=
  .inr ⟨p, q, _, _, rfl, rfl, .of e, .of e', .cons (.inl ⟨rfl, rfl⟩) (.cons (.inl ⟨rfl, rfl⟩) .nil)⟩
theorem lookF_no {fs : List Str} {q : List Str × Part} {x : Str} : lookF fs q ≠ some (("Twice" : Str), x) := by
  intro h
  unfold lookF at h
  split at h
  · have := congrArg (fun o => o.map Prod.fst) h
    exact absurd (Option.some.inj this) (show ("Hidden" : Str) ≠ "Twice" by decide)
  · obtain ⟨z, _, hz⟩ := Option.map_eq_some_iff.mp h
    exact absurd (congrArg Prod.fst hz) (show ("Stranger" : Str) ≠ "Twice" by decide)
theorem lookL_no {fs : List Str} {x : Str} : ∀ {qs : List (List Str × Part)}, lookL fs qs ≠ some (("Twice" : Str), x)
  | [], h => by cases h
  | q0 :: qs, h => by
    have h' : (lookF fs q0).or (lookL fs qs) = some (("Twice" : Str), x) := h
    cases hq : lookF fs q0 with
    | none => rw [hq] at h'; exact lookL_no h'
    | some y =>
      rw [hq] at h'
      have hy : y = (("Twice" : Str), x) := Option.some.inj h'
      exact lookF_no (hq.trans (congrArg some hy))
def spReadTold : Sp := fun vs H Q _ => ∃ (v : V) (P : Prog), vs = [v] ∧ Tp H v P.data ∧ P.bd ∧ P.names.Nodup ∧ ∀ t H' a b, Told7 P a b → Same H H' → H' t = some (.tup [.str a, .str b]) → Q (.ref t) H'
theorem pure_readtold {K : PySem.W.Frag} {w : World} (em : ErrM K) : PureOk 1 spReadTold (t_law_read_told K w (spReadX K) spWrittenB) 4 := by
  refine ⟨fun vs H Q E ⟨_, _, e, _⟩ => by rw [e]; rfl, ?_⟩
  rintro vs H Q E ⟨v, P, rfl, tP, hbd, hnd, q⟩
  show t_law_read_told K w _ _ _ [some v, none, none, none] H
  unfold t_law_read_told
  walk_at "gg"
  refine g_tryM ?_
  walk_at "gg"
  refine ⟨v, P, rfl, tP, hbd, fun H1 s1 => ?_⟩
  walk_at "gg"
  refine ⟨P, rfl, hbd, fun hl v2 H2 t2 s2 => ?_, fun c x hl dd H2 ndd edd s2 => ?_⟩
  · obtain ⟨pa, fa, u, vs, rfl, epa, efa, tfs, tas⟩ := t2.prog
    walk_at "gg"
    refine .inl ⟨rfl, ?_⟩
    walk_at "gg"
    rename_i t3 H3 n3 e3 s3 l4 H4 n4 e4 s4
    have s24 := s3.trans s4
    have tv4 := tP.mono (Same.tk (s1.trans (s2.trans s24)))
    refine g_eqLk (Tp.likeR (ds := [.tuple (P.fs.map Fn1.data), P.asked.data]) (t2.mono (Same.tk s24)) tv4 hbd.depth) (Nat.le_refl 150) ?_
    walk_at "gg"
    exact q t3 H4 "" "" (.inl ⟨hl, rfl, rfl⟩) (s1.trans (s2.trans s24)) (s4 _ _ e3)
  · have hc : c = "Hidden" ∨ c = "Stranger" := by
      rcases lookM_cls hl with rfl | h
      · exfalso
        unfold lookM at hl
        rw [dupG_nodup (by rw [List.nil_append]; exact hnd)] at hl
        exact lookL_no hl
      · exact h
    rcases hc with rfl | rfl
    · refine ⟨true, em.hh, fun _ a ha => ?_, fun h => (by cases h)⟩
      walk_at "gg"
      refine g_xf ?_
      walk_at "gg"
      refine ⟨rfl, rfl, dd, _, .str x, rfl, edd, rfl, ?_⟩
      walk_at "gg"
      rename_i t3 H3 n3 e3 s3
      dsimp only [List.set]
      walk_at "gg"
      refine .inl ⟨rfl, ?_⟩
      walk_at "gg"
      exact q t3 H3 "hidden" x (.inr ⟨"Hidden", hl, rfl⟩) (s1.trans (s2.trans s3)) e3
    · refine ⟨false, em.sh, fun h => (by cases h), fun _ => ⟨true, em.ss, fun _ a ha => ?_, fun h => (by cases h)⟩⟩
      walk_at "gg"
      refine g_xf ?_
      walk_at "gg"
      refine ⟨rfl, rfl, dd, _, .str x, rfl, edd, rfl, ?_⟩
      walk_at "gg"
      rename_i t3 H3 n3 e3 s3
      dsimp only [List.set]
      walk_at "gg"
      refine .inl ⟨rfl, ?_⟩
      walk_at "gg"
      exact q t3 H3 "stranger" x (.inr ⟨"Stranger", hl, rfl⟩) (s1.trans (s2.trans s3)) e3
def nameOf : PyData → Str
  | .tuple (.str s :: _) => s
  | _ => ""
theorem Prog.names_of (P : Prog) : P.names = (P.fs.map Fn1.data).map nameOf := by rw [List.map_map]; rfl
theorem names_data {P P2 : Prog} (h : P.data = P2.data) : P.names = P2.names := by
  have h1 : PyData.tuple [.tuple (P.fs.map Fn1.data), P.asked.data] = .tuple [.tuple (P2.fs.map Fn1.data), P2.asked.data] := h
  injection h1 with h2
  injection h2 with h3 _
  injection h3 with h4
  rw [P.names_of, P2.names_of, h4]
theorem SqL.to' {K : PySem.W.Frag} {H H' : Hp} {a : Addr} {xs : List V} (s : Same H H') (h : SqL K H a xs) : SqL K H' a xs := h.elim (fun h => .inl (h.elim (fun h => .inl (s _ _ h)) fun ⟨o, h⟩ => .inr ⟨o, s _ _ h⟩)) .inr
theorem pure_law {K : PySem.W.Frag} {w : World} : PureOk 1 (spLaw K) (t_law K w (spPen K) spNamedProg spToldX spToldX spReadTold) 5 := by
  refine ⟨fun vs H Q E ⟨_, _, e, _⟩ => by rw [e]; rfl, ?_⟩
  rintro vs H Q E ⟨sa, ns, rfl, hS, hl, q⟩
  show t_law K w _ _ _ _ _ _ [some (.ref sa), none, none, none, none] H
  unfold t_law
  walk_at "gg"
  refine ⟨sa, ns, rfl, hS, hl, fun pen L H1 npen nL hP1 s1 => ?_⟩
  walk_at "gg"
  refine g_lenL (SqL.to' s1 hS) ?_
  walk_at "gg"
  refine g_isrng (by omega) (by omega) ?_
  refine for_any (max 2 (min 8 ((ns.map V.int).length : Int))).toNat (fun i σ H' => ∃ x2 x3 x4, σ = [some (.ref sa), some (.ref pen), x2, x3, x4] ∧ PenAt H' pen L) ⟨_, _, _, rfl, hP1⟩ (fun i σ H' hi _ => hi) (fun σ H' _ => Nat.le_refl _) ?_ ?_
  · clear hP1 s1 hS
    rintro i x σ _ H2 hi ⟨x2, x3, x4, rfl, hP2⟩ ⟨rfl, rfl⟩
    walk_at "gg"
    refine ⟨pen, L, rfl, hP2, fun v P H3 tP h7 hP3 => ?_⟩
    have gP := tP.gq h7.sh
    cases hb : builtM P.data with
    | false =>
      have no : ∀ {H : Hp} {Q : VK} {E : XK}, Gq H v P.data → (∀ t H', Same H H' → H' t = some (.tup [.str "program", .str ""]) → Q (.ref t) H') → spToldX ([v] ++ []) H Q E := fun g q => ⟨_, P.data, rfl, g, fun _ t H' s e => q t H' s e, fun h => (by rw [hb] at h; cases h)⟩
      walk_at "gg"
      refine no gP fun t1 H4 s4 e4 => ?_
      walk_at "gg"
      refine no (gP.mono (Same.tl s4)) fun t2 H5 s5 e5 => ?_
      walk_at "gg"
      refine g_neLk (two_like7 e5 (s5 _ _ e4)) (by decide) ?_
      have e45 := s5 _ _ e4
      walk_at "gg"
      exact ⟨_, _, _, rfl, hP3.same (s4.trans s5)⟩
    | true =>
      obtain ⟨P2, hP2', hbd2⟩ := builtM_decode hb
      have hnd2 : P2.names.Nodup := by rw [← names_data hP2']; exact h7.nd
      obtain ⟨a, b, h7ab, tw⟩ := told_words7 hbd2
      rw [hP2'] at gP tP
      walk_at "gg"
      refine tw gP fun t1 H4 s4 e4 => ?_
      walk_at "gg"
      refine tw (gP.mono (Same.tl s4)) fun t2 H5 s5 e5 => ?_
      walk_at "gg"
      have e45 := s5 _ _ e4
      refine g_neLk (two_like7 e5 e45) (by decide) ?_
      walk_at "gg"
      refine g_ite (fun _ => ?_) (fun _ => ?_)
      · walk_at "gg"
        refine ⟨v, P2, rfl, tP.mono (Same.tk (s4.trans s5)), hbd2, hnd2, fun t H6 a' b' h7' s6 e6 => ?_⟩
        obtain ⟨rfl, rfl⟩ : a' = a ∧ b' = b := by
          rcases h7ab with ⟨l1, rfl, rfl⟩ | ⟨c, l1, rfl⟩
          · rcases h7' with ⟨l2, rfl, rfl⟩ | ⟨c2, l2, rfl⟩
            · exact ⟨rfl, rfl⟩
            · rw [l1] at l2; cases l2
          · rcases h7' with ⟨l2, rfl, rfl⟩ | ⟨c2, l2, rfl⟩
            · rw [l1] at l2; cases l2
            · rw [l1] at l2; cases l2; exact ⟨rfl, rfl⟩
        walk_at "gg"
        refine g_neLk (two_like7 e6 (s6 _ _ e45)) (by decide) ?_
        walk_at "gg"
        exact ⟨_, _, _, rfl, hP3.same (s4.trans (s5.trans s6))⟩
      · walk_at "gg"
        exact ⟨_, _, _, rfl, hP3.same (s4.trans s5)⟩
  · rintro σ H2 ⟨x2, x3, x4, rfl, hP2⟩
    walk_at "gg"
    exact q H2

/-! ### the row -/
def topS (i : Nat) : Stmt := PySem.Challenge.pw_lazywebs_k07_names_that_stand_ahead.main.body.getD i (.Pass ⟨0, 0, 0, 0⟩)
structure TX (w : World) (K : PySem.W.Frag) (mg : Str → Option Value) : Prop where
  errs : Errs K
  errm : ErrM K
  g_Twice : mg "Twice" = some (.ref (He.ga K "Twice"))
  g_Hidden : mg "Hidden" = some (.ref (He.ga K "Hidden"))
  g_Stranger : mg "Stranger" = some (.ref (He.ga K "Stranger"))
  g_NoProgram : mg "NoProgram" = some (.ref (He.ga K "NoProgram"))
  g_LazyError : mg "LazyError" = some (.ref (He.ga K "LazyError"))
  g_NoRows : mg "NoRows" = some (.ref (He.ga K "NoRows"))
  g_More : mg "More" = some (.ref (He.ga K "More"))
  g_NoRow : mg "NoRow" = some (.ref (He.ga K "NoRow"))
  g_NoText : mg "NoText" = some (.ref (He.ga K "NoText"))
  c_PartReader : Cls K (He.ga K "PartReader")
  g_PartReader : mg "PartReader" = some (.ref (He.ga K "PartReader"))
  a_PartReader_row : NoAttr K (He.ga K "PartReader") "row"
  a_PartReader_words : NoAttr K (He.ga K "PartReader") "words"
  a_PartReader_at : NoAttr K (He.ga K "PartReader") "at"
  a_PartReader_left : NoAttr K (He.ga K "PartReader") "left"
  d_Twice___init__ : ∃ fd, FunD K "__init__" "Twice.__init__" (defArgs (inClass (topS 3) 0)) (defBody (inClass (topS 3) 0)) (defScope (inClass (topS 3) 0)) [] [] (He.ma K (He.ga K "Twice") "__init__") fd
  d_Hidden___init__ : ∃ fd, FunD K "__init__" "Hidden.__init__" (defArgs (inClass (topS 4) 0)) (defBody (inClass (topS 4) 0)) (defScope (inClass (topS 4) 0)) [] [] (He.ma K (He.ga K "Hidden") "__init__") fd
  d_Stranger___init__ : ∃ fd, FunD K "__init__" "Stranger.__init__" (defArgs (inClass (topS 5) 0)) (defBody (inClass (topS 5) 0)) (defScope (inClass (topS 5) 0)) [] [] (He.ma K (He.ga K "Stranger") "__init__") fd
  d_is_name : ∃ fd, FunD K "is_name" "is_name" (defArgs (topS 13)) (defBody (topS 13)) (defScope (topS 13)) [] [] (He.ga K "is_name") fd
  f_is_name : mg "is_name" = some (.ref (He.ga K "is_name"))
  d_is_whole : ∃ fd, FunD K "is_whole" "is_whole" (defArgs (topS 14)) (defBody (topS 14)) (defScope (topS 14)) [] [] (He.ga K "is_whole") fd
  f_is_whole : mg "is_whole" = some (.ref (He.ga K "is_whole"))
  d_is_small : ∃ fd, FunD K "is_small" "is_small" (defArgs (topS 15)) (defBody (topS 15)) (defScope (topS 15)) [] [] (He.ga K "is_small") fd
  f_is_small : mg "is_small" = some (.ref (He.ga K "is_small"))
  d_within : ∃ fd, FunD K "within" "within" (defArgs (topS 16)) (defBody (topS 16)) (defScope (topS 16)) [] [] (He.ga K "within") fd
  f_within : mg "within" = some (.ref (He.ga K "within"))
  d_in_order : ∃ fd, FunD K "in_order" "in_order" (defArgs (topS 17)) (defBody (topS 17)) (defScope (topS 17)) [] [] (He.ga K "in_order") fd
  f_in_order : mg "in_order" = some (.ref (He.ga K "in_order"))
  d_is_row : ∃ fd, FunD K "is_row" "is_row" (defArgs (topS 24)) (defBody (topS 24)) (defScope (topS 24)) [] [] (He.ga K "is_row") fd
  f_is_row : mg "is_row" = some (.ref (He.ga K "is_row"))
  d_are_rows : ∃ fd, FunD K "are_rows" "are_rows" (defArgs (topS 25)) (defBody (topS 25)) (defScope (topS 25)) [] [] (He.ga K "are_rows") fd
  f_are_rows : mg "are_rows" = some (.ref (He.ga K "are_rows"))
  d_parts_of : ∃ fd, FunD K "parts_of" "parts_of" (defArgs (topS 26)) (defBody (topS 26)) (defScope (topS 26)) [] [] (He.ga K "parts_of") fd
  f_parts_of : mg "parts_of" = some (.ref (He.ga K "parts_of"))
  d_is_body : ∃ fd, FunD K "is_body" "is_body" (defArgs (topS 27)) (defBody (topS 27)) (defScope (topS 27)) [] [] (He.ga K "is_body") fd
  f_is_body : mg "is_body" = some (.ref (He.ga K "is_body"))
  d_is_function : ∃ fd, FunD K "is_function" "is_function" (defArgs (topS 28)) (defBody (topS 28)) (defScope (topS 28)) [] [] (He.ga K "is_function") fd
  f_is_function : mg "is_function" = some (.ref (He.ga K "is_function"))
  d_is_built : ∃ fd, FunD K "is_built" "is_built" (defArgs (topS 29)) (defBody (topS 29)) (defScope (topS 29)) [] [] (He.ga K "is_built") fd
  f_is_built : mg "is_built" = some (.ref (He.ga K "is_built"))
  d_row_names : ∃ fd, FunD K "row_names" "row_names" (defArgs (topS 30)) (defBody (topS 30)) (defScope (topS 30)) [] [] (He.ga K "row_names") fd
  f_row_names : mg "row_names" = some (.ref (He.ga K "row_names"))
  d_look_unlike : ∃ fd, FunD K "look_unlike" "look_unlike" (defArgs (topS 31)) (defBody (topS 31)) (defScope (topS 31)) [] [] (He.ga K "look_unlike") fd
  f_look_unlike : mg "look_unlike" = some (.ref (He.ga K "look_unlike"))
  d_look_named : ∃ fd, FunD K "look_named" "look_named" (defArgs (topS 32)) (defBody (topS 32)) (defScope (topS 32)) [] [] (He.ga K "look_named") fd
  f_look_named : mg "look_named" = some (.ref (He.ga K "look_named"))
  d_looked : ∃ fd, FunD K "looked" "looked" (defArgs (topS 33)) (defBody (topS 33)) (defScope (topS 33)) [] [] (He.ga K "looked") fd
  f_looked : mg "looked" = some (.ref (He.ga K "looked"))
  d_is_figures : ∃ fd, FunD K "is_figures" "is_figures" (defArgs (topS 36)) (defBody (topS 36)) (defScope (topS 36)) [] [] (He.ga K "is_figures") fd
  f_is_figures : mg "is_figures" = some (.ref (He.ga K "is_figures"))
  d_is_marked : ∃ fd, FunD K "is_marked" "is_marked" (defArgs (topS 37)) (defBody (topS 37)) (defScope (topS 37)) [] [] (He.ga K "is_marked") fd
  f_is_marked : mg "is_marked" = some (.ref (He.ga K "is_marked"))
  d_PartReader___init__ : ∃ fd, FunD K "__init__" "PartReader.__init__" (defArgs (inClass (topS 38) 0)) (defBody (inClass (topS 38) 0)) (defScope (inClass (topS 38) 0)) [] [] (He.ma K (He.ga K "PartReader") "__init__") fd
  i_PartReader : Mk K (He.ga K "PartReader") (He.ma K (He.ga K "PartReader") "__init__")
  d_PartReader_refuse : ∃ fd, FunD K "refuse" "PartReader.refuse" (defArgs (inClass (topS 38) 1)) (defBody (inClass (topS 38) 1)) (defScope (inClass (topS 38) 1)) [] [] (He.ma K (He.ga K "PartReader") "refuse") fd
  m_PartReader_refuse : Meth K (He.ga K "PartReader") "refuse" (He.ma K (He.ga K "PartReader") "refuse")
  d_PartReader_now : ∃ fd, FunD K "now" "PartReader.now" (defArgs (inClass (topS 38) 2)) (defBody (inClass (topS 38) 2)) (defScope (inClass (topS 38) 2)) [] [] (He.ma K (He.ga K "PartReader") "now") fd
  m_PartReader_now : Meth K (He.ga K "PartReader") "now" (He.ma K (He.ga K "PartReader") "now")
  d_PartReader_mark : ∃ fd, FunD K "mark" "PartReader.mark" (defArgs (inClass (topS 38) 3)) (defBody (inClass (topS 38) 3)) (defScope (inClass (topS 38) 3)) [] [] (He.ma K (He.ga K "PartReader") "mark") fd
  m_PartReader_mark : Meth K (He.ga K "PartReader") "mark" (He.ma K (He.ga K "PartReader") "mark")
  d_PartReader_begin : ∃ fd, FunD K "begin" "PartReader.begin" (defArgs (inClass (topS 38) 4)) (defBody (inClass (topS 38) 4)) (defScope (inClass (topS 38) 4)) [] [] (He.ma K (He.ga K "PartReader") "begin") fd
  m_PartReader_begin : Meth K (He.ga K "PartReader") "begin" (He.ma K (He.ga K "PartReader") "begin")
  d_PartReader_let_rows : ∃ fd, FunD K "let_rows" "PartReader.let_rows" (defArgs (inClass (topS 38) 5)) (defBody (inClass (topS 38) 5)) (defScope (inClass (topS 38) 5)) [] [] (He.ma K (He.ga K "PartReader") "let_rows") fd
  m_PartReader_let_rows : Meth K (He.ga K "PartReader") "let_rows" (He.ma K (He.ga K "PartReader") "let_rows")
  d_PartReader_part : ∃ fd, FunD K "part" "PartReader.part" (defArgs (inClass (topS 38) 6)) (defBody (inClass (topS 38) 6)) (defScope (inClass (topS 38) 6)) [] [] (He.ma K (He.ga K "PartReader") "part") fd
  m_PartReader_part : Meth K (He.ga K "PartReader") "part" (He.ma K (He.ga K "PartReader") "part")
  d_PartReader_whole : ∃ fd, FunD K "whole" "PartReader.whole" (defArgs (inClass (topS 38) 7)) (defBody (inClass (topS 38) 7)) (defScope (inClass (topS 38) 7)) [] [] (He.ma K (He.ga K "PartReader") "whole") fd
  m_PartReader_whole : Meth K (He.ga K "PartReader") "whole" (He.ma K (He.ga K "PartReader") "whole")
  d_read_part : ∃ fd, FunD K "read_part" "read_part" (defArgs (topS 39)) (defBody (topS 39)) (defScope (topS 39)) [] [] (He.ga K "read_part") fd
  f_read_part : mg "read_part" = some (.ref (He.ga K "read_part"))
  d_read_function : ∃ fd, FunD K "read_function" "read_function" (defArgs (topS 40)) (defBody (topS 40)) (defScope (topS 40)) [] [] (He.ga K "read_function") fd
  f_read_function : mg "read_function" = some (.ref (He.ga K "read_function"))
  d_read : ∃ fd, FunD K "read" "read" (defArgs (topS 41)) (defBody (topS 41)) (defScope (topS 41)) [] [] (He.ga K "read") fd
  f_read : mg "read" = some (.ref (He.ga K "read"))
  d_words_of : ∃ fd, FunD K "words_of" "words_of" (defArgs (topS 43)) (defBody (topS 43)) (defScope (topS 43)) [] [] (He.ga K "words_of") fd
  f_words_of : mg "words_of" = some (.ref (He.ga K "words_of"))
  d_part_text : ∃ fd, FunD K "part_text" "part_text" (defArgs (topS 44)) (defBody (topS 44)) (defScope (topS 44)) [] [] (He.ga K "part_text") fd
  f_part_text : mg "part_text" = some (.ref (He.ga K "part_text"))
  d_function_text : ∃ fd, FunD K "function_text" "function_text" (defArgs (topS 45)) (defBody (topS 45)) (defScope (topS 45)) [] [] (He.ga K "function_text") fd
  f_function_text : mg "function_text" = some (.ref (He.ga K "function_text"))
  d_written : ∃ fd, FunD K "written" "written" (defArgs (topS 46)) (defBody (topS 46)) (defScope (topS 46)) [] [] (He.ga K "written") fd
  f_written : mg "written" = some (.ref (He.ga K "written"))
  d_law_pen : ∃ fd, FunD K "_law_pen" "_law_pen" (defArgs (topS 48)) (defBody (topS 48)) (defScope (topS 48)) [] [] (He.ga K "_law_pen") fd
  f_law_pen : mg "_law_pen" = some (.ref (He.ga K "_law_pen"))
  d_law_draw : ∃ fd, FunD K "_law_draw" "_law_draw" (defArgs (topS 49)) (defBody (topS 49)) (defScope (topS 49)) [] [] (He.ga K "_law_draw") fd
  f_law_draw : mg "_law_draw" = some (.ref (He.ga K "_law_draw"))
  d_law_is_name : ∃ fd, FunD K "_law_is_name" "_law_is_name" (defArgs (topS 50)) (defBody (topS 50)) (defScope (topS 50)) [] [] (He.ga K "_law_is_name") fd
  f_law_is_name : mg "_law_is_name" = some (.ref (He.ga K "_law_is_name"))
  d_law_inner : ∃ fd, FunD K "_law_inner" "_law_inner" (defArgs (topS 51)) (defBody (topS 51)) (defScope (topS 51)) [] [] (He.ga K "_law_inner") fd
  f_law_inner : mg "_law_inner" = some (.ref (He.ga K "_law_inner"))
  d_law_is_body : ∃ fd, FunD K "_law_is_body" "_law_is_body" (defArgs (topS 52)) (defBody (topS 52)) (defScope (topS 52)) [] [] (He.ga K "_law_is_body") fd
  f_law_is_body : mg "_law_is_body" = some (.ref (He.ga K "_law_is_body"))
  d_law_is_function : ∃ fd, FunD K "_law_is_function" "_law_is_function" (defArgs (topS 53)) (defBody (topS 53)) (defScope (topS 53)) [] [] (He.ga K "_law_is_function") fd
  f_law_is_function : mg "_law_is_function" = some (.ref (He.ga K "_law_is_function"))
  d_law_lets : ∃ fd, FunD K "_law_lets" "_law_lets" (defArgs (topS 54)) (defBody (topS 54)) (defScope (topS 54)) [] [] (He.ga K "_law_lets") fd
  f_law_lets : mg "_law_lets" = some (.ref (He.ga K "_law_lets"))
  d_law_strange : ∃ fd, FunD K "_law_strange" "_law_strange" (defArgs (topS 55)) (defBody (topS 55)) (defScope (topS 55)) [] [] (He.ga K "_law_strange") fd
  f_law_strange : mg "_law_strange" = some (.ref (He.ga K "_law_strange"))
  d_law_due : ∃ fd, FunD K "_law_due" "_law_due" (defArgs (topS 56)) (defBody (topS 56)) (defScope (topS 56)) [] [] (He.ga K "_law_due") fd
  f_law_due : mg "_law_due" = some (.ref (He.ga K "_law_due"))
  d_law_told : ∃ fd, FunD K "_law_told" "_law_told" (defArgs (topS 57)) (defBody (topS 57)) (defScope (topS 57)) [] [] (He.ga K "_law_told") fd
  f_law_told : mg "_law_told" = some (.ref (He.ga K "_law_told"))
  d_law_name : ∃ fd, FunD K "_law_name" "_law_name" (defArgs (topS 58)) (defBody (topS 58)) (defScope (topS 58)) [] [] (He.ga K "_law_name") fd
  f_law_name : mg "_law_name" = some (.ref (He.ga K "_law_name"))
  d_law_lets_in : ∃ fd, FunD K "_law_lets_in" "_law_lets_in" (defArgs (topS 59)) (defBody (topS 59)) (defScope (topS 59)) [] [] (He.ga K "_law_lets_in") fd
  f_law_lets_in : mg "_law_lets_in" = some (.ref (He.ga K "_law_lets_in"))
  d_law_body_of : ∃ fd, FunD K "_law_body_of" "_law_body_of" (defArgs (topS 60)) (defBody (topS 60)) (defScope (topS 60)) [] [] (He.ga K "_law_body_of") fd
  f_law_body_of : mg "_law_body_of" = some (.ref (He.ga K "_law_body_of"))
  d_law_named_program : ∃ fd, FunD K "_law_named_program" "_law_named_program" (defArgs (topS 61)) (defBody (topS 61)) (defScope (topS 61)) [] [] (He.ga K "_law_named_program") fd
  f_law_named_program : mg "_law_named_program" = some (.ref (He.ga K "_law_named_program"))
  d_law_read_told : ∃ fd, FunD K "_law_read_told" "_law_read_told" (defArgs (topS 62)) (defBody (topS 62)) (defScope (topS 62)) [] [] (He.ga K "_law_read_told") fd
  f_law_read_told : mg "_law_read_told" = some (.ref (He.ga K "_law_read_told"))
  d_law : ∃ fd, FunD K "law" "law" (defArgs (topS 63)) (defBody (topS 63)) (defScope (topS 63)) [] [] (He.ga K "law") fd
  f_law : mg "law" = some (.ref (He.ga K "law"))
  n_str : mg "str" = none
  n_isinstance : mg "isinstance" = none
  n_len : mg "len" = none
  n_all : mg "all" = none
  n_int : mg "int" = none
  n_bool : mg "bool" = none
  n_abs : mg "abs" = none
  n_list : mg "list" = none
  n_tuple : mg "tuple" = none
  n_range : mg "range" = none
  n_enumerate : mg "enumerate" = none
  n_max : mg "max" = none
  n_ValueError : mg "ValueError" = none
  n_min : mg "min" = none
  v_LETTERS : ∃ u, mg "LETTERS" = some u ∧ RelV (.str "abcdefghijklmnopqrstuvwxyz") u
  g_PARTS : mg "PARTS" = some (.ref (He.ga K "PARTS"))
  k_PARTS : KTab K w (He.ga K "PARTS") [("give", V.int 2), ("plus", V.int 2), ("less", V.int 2), ("times", V.int 2), ("below", V.int 2), ("when", V.int 3), ("pair", V.int 2), ("left", V.int 1), ("right", V.int 1)]
  v_MOST_ROWS : ∃ u, mg "MOST_ROWS" = some u ∧ RelV (.int 4) u
  v_DEEPEST : ∃ u, mg "DEEPEST" = some u ∧ RelV (.int 12) u
  v_MOST_PARTS : ∃ u, mg "MOST_PARTS" = some u ∧ RelV (.int 60) u
  v_MOST_NAMES : ∃ u, mg "MOST_NAMES" = some u ∧ RelV (.int 4) u
  v_MOST_FUNCTIONS : ∃ u, mg "MOST_FUNCTIONS" = some u ∧ RelV (.int 8) u
  v_FIGURES : ∃ u, mg "FIGURES" = some u ∧ RelV (.str "0123456789") u
abbrev st_Twice___init__ : Stmt := inClass (topS 3) 0
theorem sc_Twice___init__ : FnScope ["self", "name"] ["self", "name"] (defScope st_Twice___init__) := ⟨rfl, rfl, rfl, by decide +kernel, rfl, by decide +kernel, by decide +kernel⟩
theorem mk_Twice___init__ {P : Program} {w : World} {K : PySem.W.Frag} {mg : Str → Option Value} {base : Heap} (T : TX w K mg) {j : Nat} {sp : Sp}
    (pure_ : PureOk 2 sp (t_Twice___init__ K w ) 2) : Xal P w K mg base (j + 2) "Twice" (He.ga K "Twice") sp := by
  obtain ⟨fd, F⟩ := T.d_Twice___init__
  refine xal_mk F T.errs.i_Twice T.errs.ti_Twice T.errs.o_Twice T.g_Twice sc_Twice___init__ (F.bindsN fun _ _ _ _ _ _ us hl => match us, hl with | [_, _], _ => rfl) pure_.len fun cdv A outer s H vs Q E hr h => ?_
  refine ⟨t_Twice___init__ K w , PSs.nox ?_, pure_.run vs H Q E h⟩
  exact (pss_one (ps_ost (pv 0) (pv 1)))
abbrev st_Hidden___init__ : Stmt := inClass (topS 4) 0
theorem sc_Hidden___init__ : FnScope ["self", "name"] ["self", "name"] (defScope st_Hidden___init__) := ⟨rfl, rfl, rfl, by decide +kernel, rfl, by decide +kernel, by decide +kernel⟩
theorem mk_Hidden___init__ {P : Program} {w : World} {K : PySem.W.Frag} {mg : Str → Option Value} {base : Heap} (T : TX w K mg) {j : Nat} {sp : Sp}
    (pure_ : PureOk 2 sp (t_Hidden___init__ K w ) 2) : Xal P w K mg base (j + 2) "Hidden" (He.ga K "Hidden") sp := by
  obtain ⟨fd, F⟩ := T.d_Hidden___init__
  refine xal_mk F T.errs.i_Hidden T.errs.ti_Hidden T.errs.o_Hidden T.g_Hidden sc_Hidden___init__ (F.bindsN fun _ _ _ _ _ _ us hl => match us, hl with | [_, _], _ => rfl) pure_.len fun cdv A outer s H vs Q E hr h => ?_
  refine ⟨t_Hidden___init__ K w , PSs.nox ?_, pure_.run vs H Q E h⟩
  exact (pss_one (ps_ost (pv 0) (pv 1)))
abbrev st_Stranger___init__ : Stmt := inClass (topS 5) 0
theorem sc_Stranger___init__ : FnScope ["self", "name"] ["self", "name"] (defScope st_Stranger___init__) := ⟨rfl, rfl, rfl, by decide +kernel, rfl, by decide +kernel, by decide +kernel⟩
theorem mk_Stranger___init__ {P : Program} {w : World} {K : PySem.W.Frag} {mg : Str → Option Value} {base : Heap} (T : TX w K mg) {j : Nat} {sp : Sp}
    (pure_ : PureOk 2 sp (t_Stranger___init__ K w ) 2) : Xal P w K mg base (j + 2) "Stranger" (He.ga K "Stranger") sp := by
  obtain ⟨fd, F⟩ := T.d_Stranger___init__
  refine xal_mk F T.errs.i_Stranger T.errs.ti_Stranger T.errs.o_Stranger T.g_Stranger sc_Stranger___init__ (F.bindsN fun _ _ _ _ _ _ us hl => match us, hl with | [_, _], _ => rfl) pure_.len fun cdv A outer s H vs Q E hr h => ?_
  refine ⟨t_Stranger___init__ K w , PSs.nox ?_, pure_.run vs H Q E h⟩
  exact (pss_one (ps_ost (pv 0) (pv 1)))
abbrev st_is_name : Stmt := topS 13
theorem sc_is_name : FnScope ["thing", "sign"] ["thing"] (defScope st_is_name) := ⟨rfl, rfl, rfl, by decide +kernel, rfl, by decide +kernel, by decide +kernel⟩
theorem mk_is_name {P : Program} {w : World} {K : PySem.W.Frag} {mg : Str → Option Value} {base : Heap} (T : TX w K mg) {j : Nat} {sp : Sp}
    (pure_ : PureOk 1 sp (t_is_name K w ) 2) : Cal P w K mg base (j + 1) "is_name" sp := by
  obtain ⟨fd, F⟩ := T.d_is_name
  refine cal_mk F T.f_is_name sc_is_name (F.bindsN fun _ _ _ _ _ _ us hl => match us, hl with | [_], _ => rfl) pure_.len fun cdv A outer s H vs Q E hr h => ?_
  refine ⟨t_is_name K w , PSs.nox ?_, pure_.run vs H Q E h⟩
  exact (pss_cons (ps_if (PW.pt (pw_or (pt_not (pt_tru (pe_callB call_isiG (by rfl) T.n_isinstance (by decide +kernel) (pa_cons (pv 0) (pa_cons (pe_bltn (v := .ty "str") rfl T.n_str (by decide +kernel) rfl) pa_nil))) (by intro _; rfl))) (pw_or1 (pt_not (pt_chain op_le op_le pe_int (pe_callB call_lenG (by rfl) T.n_len (by decide +kernel) (pa_cons (pv 0) pa_nil)) pe_int))))) (pss_one (ps_ret pe_bl)) pss_nil)
  (pss_one (ps_ret (pe_callB (cr_all rfl) (by rfl) T.n_all (by decide +kernel) (pa_cons (pe_lc (own := [("sign", 1)]) (g := (gName 1)) (tt := tYes) rfl sc_is_name.nd (pi_seq (pv 0)) (blkOk_by (by kernel_rfl)) (fun _ _ _ _ _ => (pg_name (i := 1) sc_is_name.nd rfl (by first | exact Or.inl rfl | exact Or.inr rfl))) (fun _ _ _ _ _ => pts_nil) (fun _ _ _ _ _ => (pe_cmpR (op_inG (hu_of hr)) (pv 1) (pe_gc rfl T.v_LETTERS) (by rfl)))) pa_nil)))))
abbrev st_is_whole : Stmt := topS 14
theorem sc_is_whole : FnScope ["thing"] ["thing"] (defScope st_is_whole) := ⟨rfl, rfl, rfl, by decide +kernel, rfl, by decide +kernel, by decide +kernel⟩
theorem mk_is_whole {P : Program} {w : World} {K : PySem.W.Frag} {mg : Str → Option Value} {base : Heap} (T : TX w K mg) {j : Nat} {sp : Sp}
    (pure_ : PureOk 1 sp (t_is_whole K w ) 1) : Cal P w K mg base (j + 1) "is_whole" sp := by
  obtain ⟨fd, F⟩ := T.d_is_whole
  refine cal_mk F T.f_is_whole sc_is_whole (F.bindsN fun _ _ _ _ _ _ us hl => match us, hl with | [_], _ => rfl) pure_.len fun cdv A outer s H vs Q E hr h => ?_
  refine ⟨t_is_whole K w , PSs.nox ?_, pure_.run vs H Q E h⟩
  exact (pss_one (ps_ret (pe_andT (pe_callB call_isiG (by rfl) T.n_isinstance (by decide +kernel) (pa_cons (pv 0) (pa_cons (pe_bltn (v := .ty "int") rfl T.n_int (by decide +kernel) rfl) pa_nil))) (pe_one (pe_notT (pe_callB call_isiG (by rfl) T.n_isinstance (by decide +kernel) (pa_cons (pv 0) (pa_cons (pe_bltn (v := .ty "bool") rfl T.n_bool (by decide +kernel) rfl) pa_nil))))))))
abbrev st_is_small : Stmt := topS 15
theorem sc_is_small : FnScope ["number"] ["number"] (defScope st_is_small) := ⟨rfl, rfl, rfl, by decide +kernel, rfl, by decide +kernel, by decide +kernel⟩
theorem mk_is_small {P : Program} {w : World} {K : PySem.W.Frag} {mg : Str → Option Value} {base : Heap} (T : TX w K mg) {j : Nat} {sp : Sp}
    (pure_ : PureOk 1 sp (t_is_small K w ) 1) : Cal P w K mg base (j + 1) "is_small" sp := by
  obtain ⟨fd, F⟩ := T.d_is_small
  refine cal_mk F T.f_is_small sc_is_small (F.bindsN fun _ _ _ _ _ _ us hl => match us, hl with | [_], _ => rfl) pure_.len fun cdv A outer s H vs Q E hr h => ?_
  refine ⟨t_is_small K w , PSs.nox ?_, pure_.run vs H Q E h⟩
  exact (pss_one (ps_ret (pe_cmpR op_lt (pe_callB call_abs (by rfl) T.n_abs (by decide +kernel) (pa_cons (pv 0) pa_nil)) (pe_op op_pow pe_int pe_int) (nomark _))))
abbrev st_within : Stmt := topS 16
theorem sc_within : FnScope ["part", "name", "one"] ["part"] (defScope st_within) := ⟨rfl, rfl, rfl, by decide +kernel, rfl, by decide +kernel, by decide +kernel⟩
theorem mk_within {P : Program} {w : World} {K : PySem.W.Frag} {mg : Str → Option Value} {base : Heap} (T : TX w K mg) {j : Nat} {sp : Sp}
    (pure_ : PureOk 1 sp (t_within K w ) 3) : Cal P w K mg base (j + 1) "within" sp := by
  obtain ⟨fd, F⟩ := T.d_within
  refine cal_mk F T.f_within sc_within (F.bindsN fun _ _ _ _ _ _ us hl => match us, hl with | [_], _ => rfl) pure_.len fun cdv A outer s H vs Q E hr h => ?_
  refine ⟨t_within K w , PSs.nox ?_, pure_.run vs H Q E h⟩
  exact (pss_cons (ps_if (pt_cmpR (op_inG (hu_of hr)) (pe_ixG (hu_of hr) (pv 0) pe_int (fun _ _ => rfl)) (pe_glob (v := .ref (He.ga K "PARTS")) rfl T.g_PARTS rfl) (by rfl)) (pss_one (ps_ret (pe_callTy (call_listG rfl) (by rfl) T.n_list (by decide +kernel) (pa_cons (pe_slice sl_any (pv 0) (po_some pe_int) po_none) pa_nil)))) pss_nil)
  (pss_cons (ps_if (pt_cmpR (op_eqG (hu2_of hr)) (pe_ixG (hu_of hr) (pv 0) pe_int (fun _ _ => rfl)) pe_str (nomark _)) (pss_one (ps_ret (pe_op op_addG (pe_lc (own := [("name", 1), ("one", 2)]) (g := (gTup K 2 (gCons (gName 1) (gCons (gName 2) gNil)))) (tt := tYes) rfl sc_within.nd (pi_seq (pe_ixG (hu_of hr) (pv 0) pe_int (fun _ _ => rfl))) (blkOk_by (by kernel_rfl)) (fun _ _ _ _ _ => (pg_tup rfl (pgs_cons (pg_name (i := 1) sc_within.nd rfl (by first | exact Or.inl rfl | exact Or.inr rfl)) (pgs_cons (pg_name (i := 2) sc_within.nd rfl (by first | exact Or.inl rfl | exact Or.inr rfl)) pgs_nil)))) (fun _ _ _ _ _ => pts_nil) (fun _ _ _ _ _ => (pv 2))) (pe_lstN (pa_cons (pe_ixG (hu_of hr) (pv 0) pe_int (fun _ _ => rfl)) pa_nil))))) pss_nil)
  (pss_one (ps_ret (pe_lstN pa_nil)))))
abbrev st_in_order : Stmt := topS 17
theorem sc_in_order : FnScope ["part", "found", "pile", "one"] ["part"] (defScope st_in_order) := ⟨rfl, rfl, rfl, by decide +kernel, rfl, by decide +kernel, by decide +kernel⟩
theorem mk_in_order {P : Program} {w : World} {K : PySem.W.Frag} {mg : Str → Option Value} {base : Heap} (T : TX w K mg) {j : Nat} {sp : Sp} {s_within : Sp} (c_within : Cal P w K mg base j "within" s_within)
    (pure_ : PureOk 1 sp (t_in_order K w s_within) 4) : Cal P w K mg base (j + 1) "in_order" sp := by
  obtain ⟨fd, F⟩ := T.d_in_order
  refine cal_mk F T.f_in_order sc_in_order (F.bindsN fun _ _ _ _ _ _ us hl => match us, hl with | [_], _ => rfl) pure_.len fun cdv A outer s H vs Q E hr h => ?_
  refine ⟨t_in_order K w s_within, PSs.nox ?_, pure_.run vs H Q E h⟩
  exact (pss_cons (ps_set (i := 1) sc_in_order.nd rfl (Or.inl rfl) (pe_lstN pa_nil))
  (pss_cons (ps_set (i := 2) sc_in_order.nd rfl (Or.inl rfl) (pe_lstN (pa_cons (pv 0) pa_nil)))
  (pss_cons (ps_while PassesOwn.never (pt_cmpR (op_neG (hu2_of hr)) (pv 2) (pe_lstN pa_nil) (nomark _)) (pss_cons (ps_set (i := 3) sc_in_order.nd rfl (Or.inl rfl) (pe_bm0 PySem.F.plainAttrs_list PySem.F.slot_list_pop PySem.F.type_list_pop mt_popG (pv 2)))
  (pss_cons (ps_expr (pe_bm PySem.F.plainAttrs_list PySem.F.slot_list_append PySem.F.type_list_append mt_appendG (pv 1) (pa_cons (pv 3) pa_nil)))
  (pss_one (ps_expr (pe_bm PySem.F.plainAttrs_list PySem.F.slot_list_extend PySem.F.type_list_extend mt_extendG (pv 2) (pa_cons (pe_revG (pe_cal c_within hr rfl (pa_cons (pv 3) pa_nil))) pa_nil)))))))
  (pss_one (ps_ret (pv 1))))))
abbrev st_is_row : Stmt := topS 24
theorem sc_is_row : FnScope ["thing"] ["thing"] (defScope st_is_row) := ⟨rfl, rfl, rfl, by decide +kernel, rfl, by decide +kernel, by decide +kernel⟩
theorem mk_is_row {P : Program} {w : World} {K : PySem.W.Frag} {mg : Str → Option Value} {base : Heap} (T : TX w K mg) {j : Nat} {sp : Sp} {s_is_name : Sp} (c_is_name : Cal P w K mg base j "is_name" s_is_name)
    (pure_ : PureOk 1 sp (t_is_row K w s_is_name) 1) : Cal P w K mg base (j + 1) "is_row" sp := by
  obtain ⟨fd, F⟩ := T.d_is_row
  refine cal_mk F T.f_is_row sc_is_row (F.bindsN fun _ _ _ _ _ _ us hl => match us, hl with | [_], _ => rfl) pure_.len fun cdv A outer s H vs Q E hr h => ?_
  refine ⟨t_is_row K w s_is_name, PSs.nox ?_, pure_.run vs H Q E h⟩
  exact (pss_one (ps_ret (pe_andT (pe_callB call_isiG (by rfl) T.n_isinstance (by decide +kernel) (pa_cons (pv 0) (pa_cons (pe_bltn (v := .ty "tuple") rfl T.n_tuple (by decide +kernel) rfl) pa_nil))) (pe_andT (pe_cmpR (op_eqG (hu2_of hr)) (pe_callB call_lenG (by rfl) T.n_len (by decide +kernel) (pa_cons (pv 0) pa_nil)) pe_int (nomark _)) (pe_one (pe_cal c_is_name hr rfl (pa_cons (pe_ixG (hu_of hr) (pv 0) pe_int (fun _ _ => rfl)) pa_nil)))))))
abbrev st_are_rows : Stmt := topS 25
theorem sc_are_rows : FnScope ["thing", "row"] ["thing"] (defScope st_are_rows) := ⟨rfl, rfl, rfl, by decide +kernel, rfl, by decide +kernel, by decide +kernel⟩
theorem mk_are_rows {P : Program} {w : World} {K : PySem.W.Frag} {mg : Str → Option Value} {base : Heap} (T : TX w K mg) {j : Nat} {sp : Sp} {s_is_row : Sp} (c_is_row : Cal P w K mg base j "is_row" s_is_row)
    (pure_ : PureOk 1 sp (t_are_rows K w s_is_row) 2) : Cal P w K mg base (j + 1) "are_rows" sp := by
  obtain ⟨fd, F⟩ := T.d_are_rows
  refine cal_mk F T.f_are_rows sc_are_rows (F.bindsN fun _ _ _ _ _ _ us hl => match us, hl with | [_], _ => rfl) pure_.len fun cdv A outer s H vs Q E hr h => ?_
  refine ⟨t_are_rows K w s_is_row, PSs.nox ?_, pure_.run vs H Q E h⟩
  exact (pss_one (ps_ret (pe_andT (pe_callB call_isiG (by rfl) T.n_isinstance (by decide +kernel) (pa_cons (pv 0) (pa_cons (pe_bltn (v := .ty "tuple") rfl T.n_tuple (by decide +kernel) rfl) pa_nil))) (pe_andT (pe_chain op_le op_le pe_int (pe_callB call_lenG (by rfl) T.n_len (by decide +kernel) (pa_cons (pv 0) pa_nil)) (pe_gc rfl T.v_MOST_ROWS)) (pe_one (pe_callB (cr_all rfl) (by rfl) T.n_all (by decide +kernel) (pa_cons (pe_lc (own := [("row", 1)]) (g := (gName 1)) (tt := tYes) rfl sc_are_rows.nd (pi_seq (pv 0)) (blkOk_by (by kernel_rfl)) (fun _ _ _ _ _ => (pg_name (i := 1) sc_are_rows.nd rfl (by first | exact Or.inl rfl | exact Or.inr rfl))) (fun _ _ _ _ _ => pts_nil) (fun _ _ _ _ _ => (pe_cal c_is_row hr rfl (pa_cons (pv 1) pa_nil)))) pa_nil)))))))
abbrev st_parts_of : Stmt := topS 26
theorem sc_parts_of : FnScope ["thing", "row"] ["thing"] (defScope st_parts_of) := ⟨rfl, rfl, rfl, by decide +kernel, rfl, by decide +kernel, by decide +kernel⟩
theorem mk_parts_of {P : Program} {w : World} {K : PySem.W.Frag} {mg : Str → Option Value} {base : Heap} (T : TX w K mg) {j : Nat} {sp : Sp} {s_is_whole s_is_small s_is_name s_are_rows : Sp} (c_is_whole : Cal P w K mg base j "is_whole" s_is_whole) (c_is_small : Cal P w K mg base j "is_small" s_is_small) (c_is_name : Cal P w K mg base j "is_name" s_is_name) (c_are_rows : Cal P w K mg base j "are_rows" s_are_rows)
    (pure_ : PureOk 1 sp (t_parts_of K w s_is_whole s_is_small s_is_name s_are_rows) 2) : Cal P w K mg base (j + 1) "parts_of" sp := by
  obtain ⟨fd, F⟩ := T.d_parts_of
  refine cal_mk F T.f_parts_of sc_parts_of (F.bindsN fun _ _ _ _ _ _ us hl => match us, hl with | [_], _ => rfl) pure_.len fun cdv A outer s H vs Q E hr h => ?_
  refine ⟨t_parts_of K w s_is_whole s_is_small s_is_name s_are_rows, PSs.nox ?_, pure_.run vs H Q E h⟩
  exact (pss_cons (ps_if (PW.pt (pw_or (pt_not (pt_tru (pe_callB call_isiG (by rfl) T.n_isinstance (by decide +kernel) (pa_cons (pv 0) (pa_cons (pe_bltn (v := .ty "tuple") rfl T.n_tuple (by decide +kernel) rfl) pa_nil))) (by intro _; rfl))) (pw_or (pt_cmpR op_lt (pe_callB call_lenG (by rfl) T.n_len (by decide +kernel) (pa_cons (pv 0) pa_nil)) pe_int (nomark _)) (pw_or1 (pt_not (pt_tru (pe_callB call_isiG (by rfl) T.n_isinstance (by decide +kernel) (pa_cons (pe_ixG (hu_of hr) (pv 0) pe_int (fun _ _ => rfl)) (pa_cons (pe_bltn (v := .ty "str") rfl T.n_str (by decide +kernel) rfl) pa_nil))) (by intro _; rfl))))))) (pss_one (ps_ret pe_non)) pss_nil)
  (pss_cons (ps_if (PW.pt (pw_and (pt_cmpR (op_eqG (hu2_of hr)) (pe_ixG (hu_of hr) (pv 0) pe_int (fun _ _ => rfl)) pe_str (nomark _)) (pw_and (pt_cmpR (op_eqG (hu2_of hr)) (pe_callB call_lenG (by rfl) T.n_len (by decide +kernel) (pa_cons (pv 0) pa_nil)) pe_int (nomark _)) (pw_and (pt_tru (pe_cal c_is_whole hr rfl (pa_cons (pe_ixG (hu_of hr) (pv 0) pe_int (fun _ _ => rfl)) pa_nil)) (by intro _; rfl)) (pw_and1 (pt_tru (pe_cal c_is_small hr rfl (pa_cons (pe_ixG (hu_of hr) (pv 0) pe_int (fun _ _ => rfl)) pa_nil)) (by intro _; rfl))))))) (pss_one (ps_ret (pe_lstN pa_nil))) pss_nil)
  (pss_cons (ps_if (PW.pt (pw_and (pt_cmpR (op_inG (hu_of hr)) (pe_ixG (hu_of hr) (pv 0) pe_int (fun _ _ => rfl)) (pe_tupN (pa_cons pe_str (pa_cons pe_str pa_nil))) (by rfl)) (pw_and (pt_cmpR (op_eqG (hu2_of hr)) (pe_callB call_lenG (by rfl) T.n_len (by decide +kernel) (pa_cons (pv 0) pa_nil)) pe_int (nomark _)) (pw_and1 (pt_tru (pe_cal c_is_name hr rfl (pa_cons (pe_ixG (hu_of hr) (pv 0) pe_int (fun _ _ => rfl)) pa_nil)) (by intro _; rfl)))))) (pss_one (ps_ret (pe_lstN pa_nil))) pss_nil)
  (pss_cons (ps_if (PW.pt (pw_and (pt_cmpR (op_inG (hu_of hr)) (pe_ixG (hu_of hr) (pv 0) pe_int (fun _ _ => rfl)) (pe_glob (v := .ref (He.ga K "PARTS")) rfl T.g_PARTS rfl) (by rfl)) (pw_and1 (pt_cmpR (op_eqG (hu2_of hr)) (pe_callB call_lenG (by rfl) T.n_len (by decide +kernel) (pa_cons (pv 0) pa_nil)) (pe_op op_addG (pe_ixG (hu_of hr) (pe_glob (v := .ref (He.ga K "PARTS")) rfl T.g_PARTS rfl) (pe_ixG (hu_of hr) (pv 0) pe_int (fun _ _ => rfl)) (fun _ _ => rfl)) pe_int) (nomark _))))) (pss_one (ps_ret (pe_callTy (call_listG rfl) (by rfl) T.n_list (by decide +kernel) (pa_cons (pe_slice sl_any (pv 0) (po_some pe_int) po_none) pa_nil)))) pss_nil)
  (pss_cons (ps_if (PW.pt (pw_and (pt_cmpR (op_eqG (hu2_of hr)) (pe_ixG (hu_of hr) (pv 0) pe_int (fun _ _ => rfl)) pe_str (nomark _)) (pw_and (pt_cmpR (op_eqG (hu2_of hr)) (pe_callB call_lenG (by rfl) T.n_len (by decide +kernel) (pa_cons (pv 0) pa_nil)) pe_int (nomark _)) (pw_and1 (pt_tru (pe_cal c_are_rows hr rfl (pa_cons (pe_ixG (hu_of hr) (pv 0) pe_int (fun _ _ => rfl)) pa_nil)) (by intro _; rfl)))))) (pss_one (ps_ret (pe_op op_addG (pe_lc (own := [("row", 1)]) (g := (gName 1)) (tt := tYes) rfl sc_parts_of.nd (pi_seq (pe_ixG (hu_of hr) (pv 0) pe_int (fun _ _ => rfl))) (blkOk_by (by kernel_rfl)) (fun _ _ _ _ _ => (pg_name (i := 1) sc_parts_of.nd rfl (by first | exact Or.inl rfl | exact Or.inr rfl))) (fun _ _ _ _ _ => pts_nil) (fun _ _ _ _ _ => (pe_ixG (hu_of hr) (pv 1) pe_int (fun _ _ => rfl)))) (pe_lstN (pa_cons (pe_ixG (hu_of hr) (pv 0) pe_int (fun _ _ => rfl)) pa_nil))))) pss_nil)
  (pss_one (ps_ret pe_non)))))))
abbrev st_is_body : Stmt := topS 27
theorem sc_is_body : FnScope ["thing", "many", "pile", "one", "deep", "inner", "part"] ["thing"] (defScope st_is_body) := ⟨rfl, rfl, rfl, by decide +kernel, rfl, by decide +kernel, by decide +kernel⟩
theorem mk_is_body {P : Program} {w : World} {K : PySem.W.Frag} {mg : Str → Option Value} {base : Heap} (T : TX w K mg) {j : Nat} {sp : Sp} {s_parts_of : Sp} (c_parts_of : Cal P w K mg base j "parts_of" s_parts_of)
    (pure_ : PureOk 1 sp (t_is_body K w s_parts_of) 7) : Cal P w K mg base (j + 1) "is_body" sp := by
  obtain ⟨fd, F⟩ := T.d_is_body
  refine cal_mk F T.f_is_body sc_is_body (F.bindsN fun _ _ _ _ _ _ us hl => match us, hl with | [_], _ => rfl) pure_.len fun cdv A outer s H vs Q E hr h => ?_
  refine ⟨t_is_body K w s_parts_of, PSs.nox ?_, pure_.run vs H Q E h⟩
  exact (pss_cons (ps_set (i := 1) sc_is_body.nd rfl (Or.inl rfl) pe_int)
  (pss_cons (ps_set (i := 2) sc_is_body.nd rfl (Or.inl rfl) (pe_lstN (pa_cons (pe_tupN (pa_cons (pv 0) (pa_cons pe_int pa_nil))) pa_nil)))
  (pss_cons (ps_while PassesOwn.never (pt_cmpR (op_neG (hu2_of hr)) (pv 2) (pe_lstN pa_nil) (nomark _)) (pss_cons (ps_asg (pe_bm0 PySem.F.plainAttrs_list PySem.F.slot_list_pop PySem.F.type_list_pop mt_popG (pv 2)) (pg_tup rfl (pgs_cons (pg_name (i := 3) sc_is_body.nd rfl (by first | exact Or.inl rfl | exact Or.inr rfl)) (pgs_cons (pg_name (i := 4) sc_is_body.nd rfl (by first | exact Or.inl rfl | exact Or.inr rfl)) pgs_nil))))
  (pss_cons (ps_set (i := 5) sc_is_body.nd rfl (Or.inl rfl) (pe_cal c_parts_of hr rfl (pa_cons (pv 3) pa_nil)))
  (pss_cons (ps_set (i := 1) sc_is_body.nd rfl (Or.inl rfl) (pe_op op_addG (pv 1) pe_int))
  (pss_cons (ps_if (PW.pt (pw_or (pt_cmpR op_isG (pv 5) pe_non (nomark _)) (pw_or (pt_cmpR op_gt (pv 4) (pe_gc rfl T.v_DEEPEST) (nomark _)) (pw_or1 (pt_cmpR op_gt (pv 1) (pe_gc rfl T.v_MOST_PARTS) (nomark _)))))) (pss_one (ps_ret pe_bl)) pss_nil)
  (pss_one (ps_expr (pe_bm PySem.F.plainAttrs_list PySem.F.slot_list_extend PySem.F.type_list_extend mt_extendG (pv 2) (pa_cons (pe_lc (own := [("part", 6)]) (g := (gName 6)) (tt := tYes) rfl sc_is_body.nd (pi_seq (pv 5)) (blkOk_by (by kernel_rfl)) (fun _ _ _ _ _ => (pg_name (i := 6) sc_is_body.nd rfl (by first | exact Or.inl rfl | exact Or.inr rfl))) (fun _ _ _ _ _ => pts_nil) (fun _ _ _ _ _ => (pe_tupN (pa_cons (pv 6) (pa_cons (pe_op op_addG (pv 4) pe_int) pa_nil))))) pa_nil)))))))))
  (pss_one (ps_ret pe_bl)))))
abbrev st_is_function : Stmt := topS 28
theorem sc_is_function : FnScope ["thing", "name"] ["thing"] (defScope st_is_function) := ⟨rfl, rfl, rfl, by decide +kernel, rfl, by decide +kernel, by decide +kernel⟩
theorem mk_is_function {P : Program} {w : World} {K : PySem.W.Frag} {mg : Str → Option Value} {base : Heap} (T : TX w K mg) {j : Nat} {sp : Sp} {s_is_name s_is_body : Sp} (c_is_name : Cal P w K mg base j "is_name" s_is_name) (c_is_body : Cal P w K mg base j "is_body" s_is_body)
    (pure_ : PureOk 1 sp (t_is_function K w s_is_name s_is_body) 2) : Cal P w K mg base (j + 1) "is_function" sp := by
  obtain ⟨fd, F⟩ := T.d_is_function
  refine cal_mk F T.f_is_function sc_is_function (F.bindsN fun _ _ _ _ _ _ us hl => match us, hl with | [_], _ => rfl) pure_.len fun cdv A outer s H vs Q E hr h => ?_
  refine ⟨t_is_function K w s_is_name s_is_body, PSs.nox ?_, pure_.run vs H Q E h⟩
  exact (pss_cons (ps_if (PW.pt (pw_or (pt_not (pt_tru (pe_callB call_isiG (by rfl) T.n_isinstance (by decide +kernel) (pa_cons (pv 0) (pa_cons (pe_bltn (v := .ty "tuple") rfl T.n_tuple (by decide +kernel) rfl) pa_nil))) (by intro _; rfl))) (pw_or (pt_cmpR (op_neG (hu2_of hr)) (pe_callB call_lenG (by rfl) T.n_len (by decide +kernel) (pa_cons (pv 0) pa_nil)) pe_int (nomark _)) (pw_or (pt_not (pt_tru (pe_cal c_is_name hr rfl (pa_cons (pe_ixG (hu_of hr) (pv 0) pe_int (fun _ _ => rfl)) pa_nil)) (by intro _; rfl))) (pw_or1 (pt_not (pt_tru (pe_callB call_isiG (by rfl) T.n_isinstance (by decide +kernel) (pa_cons (pe_ixG (hu_of hr) (pv 0) pe_int (fun _ _ => rfl)) (pa_cons (pe_bltn (v := .ty "tuple") rfl T.n_tuple (by decide +kernel) rfl) pa_nil))) (by intro _; rfl)))))))) (pss_one (ps_ret pe_bl)) pss_nil)
  (pss_one (ps_ret (pe_andT (pe_cmpR op_le (pe_callB call_lenG (by rfl) T.n_len (by decide +kernel) (pa_cons (pe_ixG (hu_of hr) (pv 0) pe_int (fun _ _ => rfl)) pa_nil)) (pe_gc rfl T.v_MOST_NAMES) (nomark _)) (pe_andT (pe_callB (cr_all rfl) (by rfl) T.n_all (by decide +kernel) (pa_cons (pe_lc (own := [("name", 1)]) (g := (gName 1)) (tt := tYes) rfl sc_is_function.nd (pi_seq (pe_ixG (hu_of hr) (pv 0) pe_int (fun _ _ => rfl))) (blkOk_by (by kernel_rfl)) (fun _ _ _ _ _ => (pg_name (i := 1) sc_is_function.nd rfl (by first | exact Or.inl rfl | exact Or.inr rfl))) (fun _ _ _ _ _ => pts_nil) (fun _ _ _ _ _ => (pe_cal c_is_name hr rfl (pa_cons (pv 1) pa_nil)))) pa_nil)) (pe_one (pe_cal c_is_body hr rfl (pa_cons (pe_ixG (hu_of hr) (pv 0) pe_int (fun _ _ => rfl)) pa_nil))))))))
abbrev st_is_built : Stmt := topS 29
theorem sc_is_built : FnScope ["thing", "one"] ["thing"] (defScope st_is_built) := ⟨rfl, rfl, rfl, by decide +kernel, rfl, by decide +kernel, by decide +kernel⟩
theorem mk_is_built {P : Program} {w : World} {K : PySem.W.Frag} {mg : Str → Option Value} {base : Heap} (T : TX w K mg) {j : Nat} {sp : Sp} {s_is_function s_is_body : Sp} (c_is_function : Cal P w K mg base j "is_function" s_is_function) (c_is_body : Cal P w K mg base j "is_body" s_is_body)
    (pure_ : PureOk 1 sp (t_is_built K w s_is_function s_is_body) 2) : Cal P w K mg base (j + 1) "is_built" sp := by
  obtain ⟨fd, F⟩ := T.d_is_built
  refine cal_mk F T.f_is_built sc_is_built (F.bindsN fun _ _ _ _ _ _ us hl => match us, hl with | [_], _ => rfl) pure_.len fun cdv A outer s H vs Q E hr h => ?_
  refine ⟨t_is_built K w s_is_function s_is_body, PSs.nox ?_, pure_.run vs H Q E h⟩
  exact (pss_cons (ps_if (PW.pt (pw_or (pt_not (pt_tru (pe_callB call_isiG (by rfl) T.n_isinstance (by decide +kernel) (pa_cons (pv 0) (pa_cons (pe_bltn (v := .ty "tuple") rfl T.n_tuple (by decide +kernel) rfl) pa_nil))) (by intro _; rfl))) (pw_or (pt_cmpR (op_neG (hu2_of hr)) (pe_callB call_lenG (by rfl) T.n_len (by decide +kernel) (pa_cons (pv 0) pa_nil)) pe_int (nomark _)) (pw_or1 (pt_not (pt_tru (pe_callB call_isiG (by rfl) T.n_isinstance (by decide +kernel) (pa_cons (pe_ixG (hu_of hr) (pv 0) pe_int (fun _ _ => rfl)) (pa_cons (pe_bltn (v := .ty "tuple") rfl T.n_tuple (by decide +kernel) rfl) pa_nil))) (by intro _; rfl))))))) (pss_one (ps_ret pe_bl)) pss_nil)
  (pss_one (ps_ret (pe_andT (pe_cmpR op_le (pe_callB call_lenG (by rfl) T.n_len (by decide +kernel) (pa_cons (pe_ixG (hu_of hr) (pv 0) pe_int (fun _ _ => rfl)) pa_nil)) (pe_gc rfl T.v_MOST_FUNCTIONS) (nomark _)) (pe_andT (pe_callB (cr_all rfl) (by rfl) T.n_all (by decide +kernel) (pa_cons (pe_lc (own := [("one", 1)]) (g := (gName 1)) (tt := tYes) rfl sc_is_built.nd (pi_seq (pe_ixG (hu_of hr) (pv 0) pe_int (fun _ _ => rfl))) (blkOk_by (by kernel_rfl)) (fun _ _ _ _ _ => (pg_name (i := 1) sc_is_built.nd rfl (by first | exact Or.inl rfl | exact Or.inr rfl))) (fun _ _ _ _ _ => pts_nil) (fun _ _ _ _ _ => (pe_cal c_is_function hr rfl (pa_cons (pv 1) pa_nil)))) pa_nil)) (pe_one (pe_cal c_is_body hr rfl (pa_cons (pe_ixG (hu_of hr) (pv 0) pe_int (fun _ _ => rfl)) pa_nil))))))))
abbrev st_row_names : Stmt := topS 30
theorem sc_row_names : FnScope ["body", "found", "part", "name", "one"] ["body"] (defScope st_row_names) := ⟨rfl, rfl, rfl, by decide +kernel, rfl, by decide +kernel, by decide +kernel⟩
theorem mk_row_names {P : Program} {w : World} {K : PySem.W.Frag} {mg : Str → Option Value} {base : Heap} (T : TX w K mg) {j : Nat} {sp : Sp} {s_in_order : Sp} (c_in_order : Cal P w K mg base j "in_order" s_in_order)
    (pure_ : PureOk 1 sp (t_row_names K w s_in_order) 5) : Cal P w K mg base (j + 1) "row_names" sp := by
  obtain ⟨fd, F⟩ := T.d_row_names
  refine cal_mk F T.f_row_names sc_row_names (F.bindsN fun _ _ _ _ _ _ us hl => match us, hl with | [_], _ => rfl) pure_.len fun cdv A outer s H vs Q E hr h => ?_
  refine ⟨t_row_names K w s_in_order, PSs.nox ?_, pure_.run vs H Q E h⟩
  exact (pss_cons (ps_set (i := 1) sc_row_names.nd rfl (Or.inl rfl) (pe_lstN pa_nil))
  (pss_cons (ps_for PassesOwn.never rfl (pi_seq (pe_cal c_in_order hr rfl (pa_cons (pv 0) pa_nil))) (pg_name (i := 2) sc_row_names.nd rfl (by first | exact Or.inl rfl | exact Or.inr rfl)) (pss_one (ps_if (pt_cmpR (op_eqG (hu2_of hr)) (pe_ixG (hu_of hr) (pv 2) pe_int (fun _ _ => rfl)) pe_str (nomark _)) (pss_one (ps_expr (pe_bm PySem.F.plainAttrs_list PySem.F.slot_list_extend PySem.F.type_list_extend mt_extendG (pv 1) (pa_cons (pe_lc (own := [("name", 3), ("one", 4)]) (g := (gTup K 2 (gCons (gName 3) (gCons (gName 4) gNil)))) (tt := tYes) rfl sc_row_names.nd (pi_seq (pe_ixG (hu_of hr) (pv 2) pe_int (fun _ _ => rfl))) (blkOk_by (by kernel_rfl)) (fun _ _ _ _ _ => (pg_tup rfl (pgs_cons (pg_name (i := 3) sc_row_names.nd rfl (by first | exact Or.inl rfl | exact Or.inr rfl)) (pgs_cons (pg_name (i := 4) sc_row_names.nd rfl (by first | exact Or.inl rfl | exact Or.inr rfl)) pgs_nil)))) (fun _ _ _ _ _ => pts_nil) (fun _ _ _ _ _ => (pv 3))) pa_nil)))) pss_nil)))
  (pss_one (ps_ret (pv 1)))))
abbrev st_look_unlike : Stmt := topS 31
theorem sc_look_unlike : FnScope ["names", "at"] ["names"] (defScope st_look_unlike) := ⟨rfl, rfl, rfl, by decide +kernel, rfl, by decide +kernel, by decide +kernel⟩
theorem mk_look_unlike {P : Program} {w : World} {K : PySem.W.Frag} {mg : Str → Option Value} {base : Heap} (T : TX w K mg) {j : Nat} {sp : Sp} {s_Hidden___init__ : Sp} (c_Hidden___init__ : Xal P w K mg base j "Hidden" (He.ga K "Hidden") s_Hidden___init__)
    (pure_ : PureOkX 1 sp (tx_look_unlike K w s_Hidden___init__) 2) : CalX P w K mg base (j + 1) "look_unlike" sp := by
  obtain ⟨fd, F⟩ := T.d_look_unlike
  refine calx_mk F T.f_look_unlike sc_look_unlike (F.bindsN fun _ _ _ _ _ _ us hl => match us, hl with | [_], _ => rfl) pure_.len fun cdv A outer s H vs Q E hr h => ?_
  refine ⟨tx_look_unlike K w s_Hidden___init__ E, ?_, pure_.run vs H Q E h⟩
  exact (pss_one (ps_for (passes_of rfl) rfl (pi_range1 (by rfl) T.n_range (pa_cons (pe_callB call_lenG (by rfl) T.n_len (by decide +kernel) (pa_cons (pv 0) pa_nil)) pa_nil)) (pg_name (i := 1) sc_look_unlike.nd rfl (by first | exact Or.inl rfl | exact Or.inr rfl)) (pss_one (ps_if (pt_cmpR (op_inG (hu_of hr)) (pe_ixG (hu_of hr) (pv 0) (pv 1) (fun _ _ => rfl)) (pe_slice sl_any (pv 0) po_none (po_some (pv 1))) (by rfl)) (pss_one (ps_raiseI rfl (takes_of rfl rfl rfl rfl) c_Hidden___init__ hr rfl (pa_cons (pe_ixG (hu_of hr) (pv 0) (pv 1) (fun _ _ => rfl)) pa_nil))) pss_nil))))
abbrev st_look_named : Stmt := topS 32
theorem sc_look_named : FnScope ["part", "known", "functions", "inner", "name", "one"] ["part", "known", "functions"] (defScope st_look_named) := ⟨rfl, rfl, rfl, by decide +kernel, rfl, by decide +kernel, by decide +kernel⟩
theorem mk_look_named {P : Program} {w : World} {K : PySem.W.Frag} {mg : Str → Option Value} {base : Heap} (T : TX w K mg) {j : Nat} {sp : Sp} {s_Stranger___init__ s_look_named : Sp} (c_Stranger___init__ : Xal P w K mg base j "Stranger" (He.ga K "Stranger") s_Stranger___init__) (c_look_named : CalX P w K mg base j "look_named" s_look_named)
    (pure_ : PureOkX 3 sp (tx_look_named K w s_Stranger___init__ s_look_named) 6) : CalX P w K mg base (j + 1) "look_named" sp := by
  obtain ⟨fd, F⟩ := T.d_look_named
  refine calx_mk F T.f_look_named sc_look_named (F.bindsN fun _ _ _ _ _ _ us hl => match us, hl with | [_, _, _], _ => rfl) pure_.len fun cdv A outer s H vs Q E hr h => ?_
  refine ⟨tx_look_named K w s_Stranger___init__ s_look_named E, ?_, pure_.run vs H Q E h⟩
  exact (pss_cons (ps_if (PW.pt (pw_or (PW.pt (pw_and (pt_cmpR (op_eqG (hu2_of hr)) (pe_ixG (hu_of hr) (pv 0) pe_int (fun _ _ => rfl)) pe_str (nomark _)) (pw_and1 (pt_cmpR (op_notInG (hu_of hr)) (pe_ixG (hu_of hr) (pv 0) pe_int (fun _ _ => rfl)) (pv 1) (by rfl))))) (pw_or1 (PW.pt (pw_and (pt_cmpR (op_eqG (hu2_of hr)) (pe_ixG (hu_of hr) (pv 0) pe_int (fun _ _ => rfl)) pe_str (nomark _)) (pw_and1 (pt_cmpR (op_notInG (hu_of hr)) (pe_ixG (hu_of hr) (pv 0) pe_int (fun _ _ => rfl)) (pv 2) (by rfl)))))))) (pss_one (ps_raiseI rfl (takes_of rfl rfl rfl rfl) c_Stranger___init__ hr rfl (pa_cons (pe_ixG (hu_of hr) (pv 0) pe_int (fun _ _ => rfl)) pa_nil))) pss_nil)
  (pss_one (ps_if (pt_cmpR (op_eqG (hu2_of hr)) (pe_ixG (hu_of hr) (pv 0) pe_int (fun _ _ => rfl)) pe_str (nomark _)) (pss_cons (ps_set (i := 3) sc_look_named.nd rfl (Or.inl rfl) (pe_op op_addG (pv 1) (pe_lc (own := [("name", 4), ("one", 5)]) (g := (gTup K 2 (gCons (gName 4) (gCons (gName 5) gNil)))) (tt := tYes) rfl sc_look_named.nd (pi_seq (pe_ixG (hu_of hr) (pv 0) pe_int (fun _ _ => rfl))) (blkOk_by (by kernel_rfl)) (fun _ _ _ _ _ => (pg_tup rfl (pgs_cons (pg_name (i := 4) sc_look_named.nd rfl (by first | exact Or.inl rfl | exact Or.inr rfl)) (pgs_cons (pg_name (i := 5) sc_look_named.nd rfl (by first | exact Or.inl rfl | exact Or.inr rfl)) pgs_nil)))) (fun _ _ _ _ _ => pts_nil) (fun _ _ _ _ _ => (pv 4)))))
  (pss_cons (ps_for (passes_of rfl) rfl (pi_seq (pe_ixG (hu_of hr) (pv 0) pe_int (fun _ _ => rfl))) (pg_tup rfl (pgs_cons (pg_name (i := 4) sc_look_named.nd rfl (by first | exact Or.inl rfl | exact Or.inr rfl)) (pgs_cons (pg_name (i := 5) sc_look_named.nd rfl (by first | exact Or.inl rfl | exact Or.inr rfl)) pgs_nil))) (pss_one (ps_expr (pe_calE c_look_named hr rfl (takes_of rfl rfl rfl rfl) (pa_cons (pv 5) (pa_cons (pv 3) (pa_cons (pv 2) pa_nil)))))))
  (pss_one (ps_expr (pe_calE c_look_named hr rfl (takes_of rfl rfl rfl rfl) (pa_cons (pe_ixG (hu_of hr) (pv 0) pe_int (fun _ _ => rfl)) (pa_cons (pv 3) (pa_cons (pv 2) pa_nil)))))))) (pss_one (ps_if (pt_cmpR (op_inG (hu_of hr)) (pe_ixG (hu_of hr) (pv 0) pe_int (fun _ _ => rfl)) (pe_glob (v := .ref (He.ga K "PARTS")) rfl T.g_PARTS rfl) (by rfl)) (pss_one (ps_for (passes_of rfl) rfl (pi_seq (pe_slice sl_any (pv 0) (po_some pe_int) po_none)) (pg_name (i := 5) sc_look_named.nd rfl (by first | exact Or.inl rfl | exact Or.inr rfl)) (pss_one (ps_expr (pe_calE c_look_named hr rfl (takes_of rfl rfl rfl rfl) (pa_cons (pv 5) (pa_cons (pv 1) (pa_cons (pv 2) pa_nil)))))))) pss_nil)))))
abbrev st_looked : Stmt := topS 33
theorem sc_looked : FnScope ["thing", "functions", "name", "names", "body", "at"] ["thing"] (defScope st_looked) := ⟨rfl, rfl, rfl, by decide +kernel, rfl, by decide +kernel, by decide +kernel⟩
theorem mk_looked {P : Program} {w : World} {K : PySem.W.Frag} {mg : Str → Option Value} {base : Heap} (T : TX w K mg) {j : Nat} {sp : Sp} {s_is_built s_Twice___init__ s_look_unlike s_row_names s_look_named : Sp} (c_is_built : Cal P w K mg base j "is_built" s_is_built) (c_Twice___init__ : Xal P w K mg base j "Twice" (He.ga K "Twice") s_Twice___init__) (c_look_unlike : CalX P w K mg base j "look_unlike" s_look_unlike) (c_row_names : Cal P w K mg base j "row_names" s_row_names) (c_look_named : CalX P w K mg base j "look_named" s_look_named)
    (pure_ : PureOkX 1 sp (tx_looked K w s_is_built s_Twice___init__ s_look_unlike s_row_names s_look_named) 6) : CalX P w K mg base (j + 1) "looked" sp := by
  obtain ⟨fd, F⟩ := T.d_looked
  refine calx_mk F T.f_looked sc_looked (F.bindsN fun _ _ _ _ _ _ us hl => match us, hl with | [_], _ => rfl) pure_.len fun cdv A outer s H vs Q E hr h => ?_
  refine ⟨tx_looked K w s_is_built s_Twice___init__ s_look_unlike s_row_names s_look_named E, ?_, pure_.run vs H Q E h⟩
  exact (pss_cons (ps_if (pt_not (pt_tru (pe_cal c_is_built hr rfl (pa_cons (pv 0) pa_nil)) (by intro _; rfl))) (pss_one (ps_raiseO rfl (takes_of rfl rfl rfl rfl) T.errs.q_NoProgram T.g_NoProgram T.errs.x_NoProgram rfl)) pss_nil)
  (pss_cons (ps_setLc (i := 1) (own := [("name", 2), ("names", 3), ("body", 4)]) (g := (gTup K 3 (gCons (gName 2) (gCons (gName 3) (gCons (gName 4) gNil))))) (tt := tYes) rfl sc_looked.nd rfl rfl (sw_true rfl rfl rfl (by decide +kernel)) (pi_seq (pe_ixG (hu_of hr) (pv 0) pe_int (fun _ _ => rfl))) (blkOk_by (by kernel_rfl)) (fun _ _ _ _ _ => (pg_tup rfl (pgs_cons (pg_name (i := 2) sc_looked.nd rfl (by first | exact Or.inl rfl | exact Or.inr rfl)) (pgs_cons (pg_name (i := 3) sc_looked.nd rfl (by first | exact Or.inl rfl | exact Or.inr rfl)) (pgs_cons (pg_name (i := 4) sc_looked.nd rfl (by first | exact Or.inl rfl | exact Or.inr rfl)) pgs_nil))))) (fun _ _ _ _ _ => pts_nil) (fun _ _ _ _ _ => (pv 2)))
  (pss_cons (ps_for (passes_of rfl) rfl (pi_range1 (by rfl) T.n_range (pa_cons (pe_callB call_lenG (by rfl) T.n_len (by decide +kernel) (pa_cons (pv 1) pa_nil)) pa_nil)) (pg_name (i := 5) sc_looked.nd rfl (by first | exact Or.inl rfl | exact Or.inr rfl)) (pss_one (ps_if (pt_cmpR (op_inG (hu_of hr)) (pe_ixG (hu_of hr) (pv 1) (pv 5) (fun _ _ => rfl)) (pe_slice sl_any (pv 1) po_none (po_some (pv 5))) (by rfl)) (pss_one (ps_raiseI rfl (takes_of rfl rfl rfl rfl) c_Twice___init__ hr rfl (pa_cons (pe_ixG (hu_of hr) (pv 1) (pv 5) (fun _ _ => rfl)) pa_nil))) pss_nil)))
  (pss_cons (ps_for (passes_of rfl) rfl (pi_seq (pe_op op_addG (pe_lc (own := [("name", 2), ("names", 3), ("body", 4)]) (g := (gTup K 3 (gCons (gName 2) (gCons (gName 3) (gCons (gName 4) gNil))))) (tt := tYes) rfl sc_looked.nd (pi_seq (pe_ixG (hu_of hr) (pv 0) pe_int (fun _ _ => rfl))) (blkOk_by (by kernel_rfl)) (fun _ _ _ _ _ => (pg_tup rfl (pgs_cons (pg_name (i := 2) sc_looked.nd rfl (by first | exact Or.inl rfl | exact Or.inr rfl)) (pgs_cons (pg_name (i := 3) sc_looked.nd rfl (by first | exact Or.inl rfl | exact Or.inr rfl)) (pgs_cons (pg_name (i := 4) sc_looked.nd rfl (by first | exact Or.inl rfl | exact Or.inr rfl)) pgs_nil))))) (fun _ _ _ _ _ => pts_nil) (fun _ _ _ _ _ => (pe_tupN (pa_cons (pv 3) (pa_cons (pv 4) pa_nil))))) (pe_lstN (pa_cons (pe_tupN (pa_cons (pe_tupN pa_nil) (pa_cons (pe_ixG (hu_of hr) (pv 0) pe_int (fun _ _ => rfl)) pa_nil))) pa_nil)))) (pg_tup rfl (pgs_cons (pg_name (i := 3) sc_looked.nd rfl (by first | exact Or.inl rfl | exact Or.inr rfl)) (pgs_cons (pg_name (i := 4) sc_looked.nd rfl (by first | exact Or.inl rfl | exact Or.inr rfl)) pgs_nil))) (pss_cons (ps_expr (pe_calE c_look_unlike hr rfl (takes_of rfl rfl rfl rfl) (pa_cons (pe_op op_addG (pe_callTy (call_listG rfl) (by rfl) T.n_list (by decide +kernel) (pa_cons (pv 3) pa_nil)) (pe_cal c_row_names hr rfl (pa_cons (pv 4) pa_nil))) pa_nil)))
  (pss_one (ps_expr (pe_calE c_look_named hr rfl (takes_of rfl rfl rfl rfl) (pa_cons (pv 4) (pa_cons (pe_callTy (call_listG rfl) (by rfl) T.n_list (by decide +kernel) (pa_cons (pv 3) pa_nil)) (pa_cons (pv 1) pa_nil))))))))
  (pss_one (ps_ret (pv 0)))))))
abbrev st_is_figures : Stmt := topS 36
theorem sc_is_figures : FnScope ["word", "figures", "sign"] ["word"] (defScope st_is_figures) := ⟨rfl, rfl, rfl, by decide +kernel, rfl, by decide +kernel, by decide +kernel⟩
theorem mk_is_figures {P : Program} {w : World} {K : PySem.W.Frag} {mg : Str → Option Value} {base : Heap} (T : TX w K mg) {j : Nat} {sp : Sp}
    (pure_ : PureOk 1 sp (t_is_figures K w ) 3) : Cal P w K mg base (j + 1) "is_figures" sp := by
  obtain ⟨fd, F⟩ := T.d_is_figures
  refine cal_mk F T.f_is_figures sc_is_figures (F.bindsN fun _ _ _ _ _ _ us hl => match us, hl with | [_], _ => rfl) pure_.len fun cdv A outer s H vs Q E hr h => ?_
  refine ⟨t_is_figures K w , PSs.nox ?_, pure_.run vs H Q E h⟩
  exact (pss_cons (ps_set (i := 1) sc_is_figures.nd rfl (Or.inl rfl) (pe_ifExp (pt_cmpR (op_eqG (hu2_of hr)) (pe_slice sl_any (pv 0) po_none (po_some pe_int)) pe_str (nomark _)) (pe_slice sl_any (pv 0) (po_some pe_int) po_none) (pv 0)))
  (pss_cons (ps_if (PW.pt (pw_or (pt_not (pt_chain op_le op_le pe_int (pe_callB call_lenG (by rfl) T.n_len (by decide +kernel) (pa_cons (pv 1) pa_nil)) pe_int)) (pw_or1 (pt_not (pt_tru (pe_callB (cr_all rfl) (by rfl) T.n_all (by decide +kernel) (pa_cons (pe_lc (own := [("sign", 2)]) (g := (gName 2)) (tt := tYes) rfl sc_is_figures.nd (pi_seq (pv 1)) (blkOk_by (by kernel_rfl)) (fun _ _ _ _ _ => (pg_name (i := 2) sc_is_figures.nd rfl (by first | exact Or.inl rfl | exact Or.inr rfl))) (fun _ _ _ _ _ => pts_nil) (fun _ _ _ _ _ => (pe_cmpR (op_inG (hu_of hr)) (pv 2) (pe_gc rfl T.v_FIGURES) (by rfl)))) pa_nil)) (by intro _; rfl)))))) (pss_one (ps_ret pe_bl)) pss_nil)
  (pss_one (ps_ret (pe_orT (pe_cmpR (op_eqG (hu2_of hr)) (pv 0) pe_str (nomark _)) (pe_one (pe_cmpR (op_neG (hu2_of hr)) (pe_ixG (hu_of hr) (pv 1) pe_int (fun _ _ => rfl)) pe_str (nomark _))))))))
abbrev st_is_marked : Stmt := topS 37
theorem sc_is_marked : FnScope ["word", "mark"] ["word", "mark"] (defScope st_is_marked) := ⟨rfl, rfl, rfl, by decide +kernel, rfl, by decide +kernel, by decide +kernel⟩
theorem mk_is_marked {P : Program} {w : World} {K : PySem.W.Frag} {mg : Str → Option Value} {base : Heap} (T : TX w K mg) {j : Nat} {sp : Sp} {s_is_name : Sp} (c_is_name : Cal P w K mg base j "is_name" s_is_name)
    (pure_ : PureOk 2 sp (t_is_marked K w s_is_name) 2) : Cal P w K mg base (j + 1) "is_marked" sp := by
  obtain ⟨fd, F⟩ := T.d_is_marked
  refine cal_mk F T.f_is_marked sc_is_marked (F.bindsN fun _ _ _ _ _ _ us hl => match us, hl with | [_, _], _ => rfl) pure_.len fun cdv A outer s H vs Q E hr h => ?_
  refine ⟨t_is_marked K w s_is_name, PSs.nox ?_, pure_.run vs H Q E h⟩
  exact (pss_one (ps_ret (pe_andT (pe_cmpR (op_eqG (hu2_of hr)) (pe_slice sl_any (pv 0) po_none (po_some pe_int)) (pv 1) (nomark _)) (pe_one (pe_cal c_is_name hr rfl (pa_cons (pe_slice sl_any (pv 0) (po_some pe_int) po_none) pa_nil))))))
abbrev st_PartReader___init__ : Stmt := inClass (topS 38) 0
theorem sc_PartReader___init__ : FnScope ["self", "row", "words", "at"] ["self", "row", "words", "at"] (defScope st_PartReader___init__) := ⟨rfl, rfl, rfl, by decide +kernel, rfl, by decide +kernel, by decide +kernel⟩
theorem mk_PartReader___init__ {P : Program} {w : World} {K : PySem.W.Frag} {mg : Str → Option Value} {base : Heap} (T : TX w K mg) {j : Nat} {sp : Sp}
    (pure_ : PureOk 4 sp (t_PartReader___init__ K w ) 4) : KCal P w K mg base (j + 2) "PartReader" (He.ga K "PartReader") sp := by
  obtain ⟨fd, F⟩ := T.d_PartReader___init__
  refine kcal_mk F T.i_PartReader T.g_PartReader sc_PartReader___init__ (F.bindsN fun _ _ _ _ _ _ us hl => match us, hl with | [_, _, _, _], _ => rfl) pure_.len fun cdv A outer s H vs Q E hr h => ?_
  refine ⟨t_PartReader___init__ K w , PSs.nox ?_, pure_.run vs H Q E h⟩
  exact (pss_cons (ps_fld (pv 0) (pv 1) rfl)
  (pss_cons (ps_fld (pv 0) (pv 2) rfl)
  (pss_cons (ps_fld (pv 0) (pv 3) rfl)
  (pss_one (ps_fld (pv 0) (pe_gc rfl T.v_MOST_PARTS) rfl)))))
abbrev st_PartReader_refuse : Stmt := inClass (topS 38) 1
theorem sc_PartReader_refuse : FnScope ["self"] ["self"] (defScope st_PartReader_refuse) := ⟨rfl, rfl, rfl, by decide +kernel, rfl, by decide +kernel, by decide +kernel⟩
theorem mk_PartReader_refuse {P : Program} {w : World} {K : PySem.W.Frag} {mg : Str → Option Value} {base : Heap} (T : TX w K mg) {j : Nat} {sp : Sp}
    (pure_ : PureOk 1 sp (t_PartReader_refuse K w ) 1) : MCal P w K mg base (j + 1) (He.ga K "PartReader") "refuse" sp := by
  obtain ⟨fd, F⟩ := T.d_PartReader_refuse
  refine mcal_mk F T.m_PartReader_refuse T.c_PartReader sc_PartReader_refuse (F.bindsN fun _ _ _ _ _ _ us hl => match us, hl with | [_], _ => rfl) pure_.len fun cdv A outer s H vs Q E hr h => ?_
  refine ⟨t_PartReader_refuse K w , PSs.nox ?_, pure_.run vs H Q E h⟩
  exact (pss_one ps_never)
abbrev st_PartReader_now : Stmt := inClass (topS 38) 2
theorem sc_PartReader_now : FnScope ["self"] ["self"] (defScope st_PartReader_now) := ⟨rfl, rfl, rfl, by decide +kernel, rfl, by decide +kernel, by decide +kernel⟩
theorem mk_PartReader_now {P : Program} {w : World} {K : PySem.W.Frag} {mg : Str → Option Value} {base : Heap} (T : TX w K mg) {j : Nat} {sp : Sp} {s_PartReader_refuse : Sp} (c_PartReader_refuse : MCal P w K mg base j (He.ga K "PartReader") "refuse" s_PartReader_refuse)
    (pure_ : PureOk 1 sp (t_PartReader_now K w s_PartReader_refuse) 1) : MCal P w K mg base (j + 1) (He.ga K "PartReader") "now" sp := by
  obtain ⟨fd, F⟩ := T.d_PartReader_now
  refine mcal_mk F T.m_PartReader_now T.c_PartReader sc_PartReader_now (F.bindsN fun _ _ _ _ _ _ us hl => match us, hl with | [_], _ => rfl) pure_.len fun cdv A outer s H vs Q E hr h => ?_
  refine ⟨t_PartReader_now K w s_PartReader_refuse, PSs.nox ?_, pure_.run vs H Q E h⟩
  exact (pss_cons (ps_if (pt_cmpR (op_eqG (hu2_of hr)) (pe_fld (pv 0) rfl) (pe_callB call_lenG (by rfl) T.n_len (by decide +kernel) (pa_cons (pe_fld (pv 0) rfl) pa_nil)) (nomark _)) (pss_one (ps_expr (pe_mcal0 (pv 0) c_PartReader_refuse hr))) pss_nil)
  (pss_one (ps_ret (pe_ixG (hu_of hr) (pe_fld (pv 0) rfl) (pe_fld (pv 0) rfl) (fun _ _ => rfl)))))
abbrev st_PartReader_mark : Stmt := inClass (topS 38) 3
theorem sc_PartReader_mark : FnScope ["self", "word"] ["self"] (defScope st_PartReader_mark) := ⟨rfl, rfl, rfl, by decide +kernel, rfl, by decide +kernel, by decide +kernel⟩
theorem mk_PartReader_mark {P : Program} {w : World} {K : PySem.W.Frag} {mg : Str → Option Value} {base : Heap} (T : TX w K mg) {j : Nat} {sp : Sp} {s_PartReader_now s_is_marked s_PartReader_refuse : Sp} (c_PartReader_now : MCal P w K mg base j (He.ga K "PartReader") "now" s_PartReader_now) (c_is_marked : Cal P w K mg base j "is_marked" s_is_marked) (c_PartReader_refuse : MCal P w K mg base j (He.ga K "PartReader") "refuse" s_PartReader_refuse)
    (pure_ : PureOk 1 sp (t_PartReader_mark K w s_PartReader_now s_is_marked s_PartReader_refuse) 2) : MCal P w K mg base (j + 1) (He.ga K "PartReader") "mark" sp := by
  obtain ⟨fd, F⟩ := T.d_PartReader_mark
  refine mcal_mk F T.m_PartReader_mark T.c_PartReader sc_PartReader_mark (F.bindsN fun _ _ _ _ _ _ us hl => match us, hl with | [_], _ => rfl) pure_.len fun cdv A outer s H vs Q E hr h => ?_
  refine ⟨t_PartReader_mark K w s_PartReader_now s_is_marked s_PartReader_refuse, PSs.nox ?_, pure_.run vs H Q E h⟩
  exact (pss_cons (ps_set (i := 1) sc_PartReader_mark.nd rfl (Or.inl rfl) (pe_mcal0 (pv 0) c_PartReader_now hr))
  (pss_cons (ps_if (pt_not (pt_tru (pe_cal c_is_marked hr rfl (pa_cons (pv 1) (pa_cons pe_str pa_nil))) (by intro _; rfl))) (pss_one (ps_expr (pe_mcal0 (pv 0) c_PartReader_refuse hr))) pss_nil)
  (pss_cons (ps_fld (pv 0) (pe_op op_addG (pe_fld (pv 0) rfl) pe_int) rfl)
  (pss_one (ps_ret (pe_slice sl_any (pv 1) (po_some pe_int) po_none))))))
abbrev st_PartReader_begin : Stmt := inClass (topS 38) 4
theorem sc_PartReader_begin : FnScope ["self", "deep", "word", "known"] ["self", "deep"] (defScope st_PartReader_begin) := ⟨rfl, rfl, rfl, by decide +kernel, rfl, by decide +kernel, by decide +kernel⟩
theorem mk_PartReader_begin {P : Program} {w : World} {K : PySem.W.Frag} {mg : Str → Option Value} {base : Heap} (T : TX w K mg) {j : Nat} {sp : Sp} {s_PartReader_now s_is_figures s_is_marked s_PartReader_refuse : Sp} (c_PartReader_now : MCal P w K mg base j (He.ga K "PartReader") "now" s_PartReader_now) (c_is_figures : Cal P w K mg base j "is_figures" s_is_figures) (c_is_marked : Cal P w K mg base j "is_marked" s_is_marked) (c_PartReader_refuse : MCal P w K mg base j (He.ga K "PartReader") "refuse" s_PartReader_refuse)
    (pure_ : PureOk 2 sp (t_PartReader_begin K w s_PartReader_now s_is_figures s_is_marked s_PartReader_refuse) 4) : MCal P w K mg base (j + 1) (He.ga K "PartReader") "begin" sp := by
  obtain ⟨fd, F⟩ := T.d_PartReader_begin
  refine mcal_mk F T.m_PartReader_begin T.c_PartReader sc_PartReader_begin (F.bindsN fun _ _ _ _ _ _ us hl => match us, hl with | [_, _], _ => rfl) pure_.len fun cdv A outer s H vs Q E hr h => ?_
  refine ⟨t_PartReader_begin K w s_PartReader_now s_is_figures s_is_marked s_PartReader_refuse, PSs.nox ?_, pure_.run vs H Q E h⟩
  exact (pss_cons (ps_set (i := 2) sc_PartReader_begin.nd rfl (Or.inl rfl) (pe_mcal0 (pv 0) c_PartReader_now hr))
  (pss_cons (ps_set (i := 3) sc_PartReader_begin.nd rfl (Or.inl rfl) (pe_orT (pe_cal c_is_figures hr rfl (pa_cons (pv 2) pa_nil)) (pe_orT (pe_cal c_is_marked hr rfl (pa_cons (pv 2) (pa_cons pe_str pa_nil))) (pe_one (pe_cal c_is_marked hr rfl (pa_cons (pv 2) (pa_cons pe_str pa_nil)))))))
  (pss_cons (ps_if (PW.pt (pw_or (pt_cmpR op_gt (pv 1) (pe_gc rfl T.v_DEEPEST) (nomark _)) (pw_or (pt_cmpR (op_eqG (hu2_of hr)) (pe_fld (pv 0) rfl) pe_int (nomark _)) (pw_or1 (PW.pt (pw_and (pt_not (pt_tru (pv 3) (by intro _; rfl))) (pw_and (pt_cmpR (op_notInG (hu_of hr)) (pv 2) (pe_glob (v := .ref (He.ga K "PARTS")) rfl T.g_PARTS rfl) (by rfl)) (pw_and1 (pt_cmpR (op_neG (hu2_of hr)) (pv 2) pe_str (nomark _)))))))))) (pss_one (ps_expr (pe_mcal0 (pv 0) c_PartReader_refuse hr))) pss_nil)
  (pss_cons (ps_fld (pv 0) (pe_op op_sub (pe_fld (pv 0) rfl) pe_int) rfl)
  (pss_cons (ps_fld (pv 0) (pe_op op_addG (pe_fld (pv 0) rfl) pe_int) rfl)
  (pss_one (ps_ret (pv 2))))))))
abbrev st_PartReader_let_rows : Stmt := inClass (topS 38) 5
theorem sc_PartReader_let_rows : FnScope ["self", "deep", "word", "found", "k", "name"] ["self", "deep"] (defScope st_PartReader_let_rows) := ⟨rfl, rfl, rfl, by decide +kernel, rfl, by decide +kernel, by decide +kernel⟩
theorem mk_PartReader_let_rows {P : Program} {w : World} {K : PySem.W.Frag} {mg : Str → Option Value} {base : Heap} (T : TX w K mg) {j : Nat} {sp : Sp} {s_PartReader_now s_PartReader_refuse s_PartReader_mark s_PartReader_part : Sp} (c_PartReader_now : MCal P w K mg base j (He.ga K "PartReader") "now" s_PartReader_now) (c_PartReader_refuse : MCal P w K mg base j (He.ga K "PartReader") "refuse" s_PartReader_refuse) (c_PartReader_mark : MCal P w K mg base j (He.ga K "PartReader") "mark" s_PartReader_mark) (c_PartReader_part : MCal P w K mg base j (He.ga K "PartReader") "part" s_PartReader_part)
    (pure_ : PureOk 2 sp (t_PartReader_let_rows K w s_PartReader_now s_PartReader_refuse s_PartReader_mark s_PartReader_part) 6) : MCal P w K mg base (j + 1) (He.ga K "PartReader") "let_rows" sp := by
  obtain ⟨fd, F⟩ := T.d_PartReader_let_rows
  refine mcal_mk F T.m_PartReader_let_rows T.c_PartReader sc_PartReader_let_rows (F.bindsN fun _ _ _ _ _ _ us hl => match us, hl with | [_, _], _ => rfl) pure_.len fun cdv A outer s H vs Q E hr h => ?_
  refine ⟨t_PartReader_let_rows K w s_PartReader_now s_PartReader_refuse s_PartReader_mark s_PartReader_part, PSs.nox ?_, pure_.run vs H Q E h⟩
  exact (pss_cons (ps_set (i := 2) sc_PartReader_let_rows.nd rfl (Or.inl rfl) (pe_mcal0 (pv 0) c_PartReader_now hr))
  (pss_cons (ps_if (pt_cmpR (op_notInG (hu_of hr)) (pv 2) (pe_slice sl_any (pe_tupN (pa_cons pe_str (pa_cons pe_str (pa_cons pe_str (pa_cons pe_str pa_nil))))) po_none (po_some (pe_gc rfl T.v_MOST_ROWS))) (by rfl)) (pss_one (ps_expr (pe_mcal0 (pv 0) c_PartReader_refuse hr))) pss_nil)
  (pss_cons (ps_fld (pv 0) (pe_op op_addG (pe_fld (pv 0) rfl) pe_int) rfl)
  (pss_cons (ps_set (i := 3) sc_PartReader_let_rows.nd rfl (Or.inl rfl) (pe_lstN pa_nil))
  (pss_cons (ps_for PassesOwn.never rfl (pi_range1 (by rfl) T.n_range (pa_cons (pe_callTy call_intA (by rfl) T.n_int (by decide +kernel) (pa_cons (pv 2) pa_nil)) pa_nil)) (pg_name (i := 4) sc_PartReader_let_rows.nd rfl (by first | exact Or.inl rfl | exact Or.inr rfl)) (pss_cons (ps_set (i := 5) sc_PartReader_let_rows.nd rfl (Or.inl rfl) (pe_mcal0 (pv 0) c_PartReader_mark hr))
  (pss_one (ps_expr (pe_bm PySem.F.plainAttrs_list PySem.F.slot_list_append PySem.F.type_list_append mt_appendG (pv 3) (pa_cons (pe_tupN (pa_cons (pv 5) (pa_cons (pe_mcal (pv 0) c_PartReader_part hr (pa_cons (pv 1) pa_nil)) pa_nil))) pa_nil))))))
  (pss_one (ps_ret (pe_callTy call_tupleG (by rfl) T.n_tuple (by decide +kernel) (pa_cons (pv 3) pa_nil)))))))))
abbrev st_PartReader_part : Stmt := inClass (topS 38) 6
theorem sc_PartReader_part : FnScope ["self", "deep", "word", "k", "found"] ["self", "deep"] (defScope st_PartReader_part) := ⟨rfl, rfl, rfl, by decide +kernel, rfl, by decide +kernel, by decide +kernel⟩
theorem mk_PartReader_part {P : Program} {w : World} {K : PySem.W.Frag} {mg : Str → Option Value} {base : Heap} (T : TX w K mg) {j : Nat} {sp : Sp} {s_PartReader_begin s_PartReader_part s_PartReader_let_rows : Sp} (c_PartReader_begin : MCal P w K mg base j (He.ga K "PartReader") "begin" s_PartReader_begin) (c_PartReader_part : MCal P w K mg base j (He.ga K "PartReader") "part" s_PartReader_part) (c_PartReader_let_rows : MCal P w K mg base j (He.ga K "PartReader") "let_rows" s_PartReader_let_rows)
    (pure_ : PureOk 2 sp (t_PartReader_part K w s_PartReader_begin s_PartReader_part s_PartReader_let_rows) 5) : MCal P w K mg base (j + 1) (He.ga K "PartReader") "part" sp := by
  obtain ⟨fd, F⟩ := T.d_PartReader_part
  refine mcal_mk F T.m_PartReader_part T.c_PartReader sc_PartReader_part (F.bindsN fun _ _ _ _ _ _ us hl => match us, hl with | [_, _], _ => rfl) pure_.len fun cdv A outer s H vs Q E hr h => ?_
  refine ⟨t_PartReader_part K w s_PartReader_begin s_PartReader_part s_PartReader_let_rows, PSs.nox ?_, pure_.run vs H Q E h⟩
  exact (pss_cons (ps_set (i := 2) sc_PartReader_part.nd rfl (Or.inl rfl) (pe_mcal (pv 0) c_PartReader_begin hr (pa_cons (pv 1) pa_nil)))
  (pss_cons (ps_if (pt_cmpR (op_inG (hu_of hr)) (pv 2) (pe_glob (v := .ref (He.ga K "PARTS")) rfl T.g_PARTS rfl) (by rfl)) (pss_one (ps_ret (pe_op op_addG (pe_tupN (pa_cons (pv 2) pa_nil)) (pe_callTy call_tupleG (by rfl) T.n_tuple (by decide +kernel) (pa_cons (pe_lc (own := [("k", 3)]) (g := (gName 3)) (tt := tYes) rfl sc_PartReader_part.nd (pi_range1 (by rfl) T.n_range (pa_cons (pe_ixG (hu_of hr) (pe_glob (v := .ref (He.ga K "PARTS")) rfl T.g_PARTS rfl) (pv 2) (fun _ _ => rfl)) pa_nil)) (blkOk_by (by kernel_rfl)) (fun _ _ _ _ _ => (pg_name (i := 3) sc_PartReader_part.nd rfl (by first | exact Or.inl rfl | exact Or.inr rfl))) (fun _ _ _ _ _ => pts_nil) (fun _ _ _ _ _ => (pe_mcal (pv 0) c_PartReader_part hr (pa_cons (pe_op op_addG (pv 1) pe_int) pa_nil)))) pa_nil))))) pss_nil)
  (pss_cons (ps_if (pt_cmpR (op_eqG (hu2_of hr)) (pv 2) pe_str (nomark _)) (pss_cons (ps_set (i := 4) sc_PartReader_part.nd rfl (Or.inl rfl) (pe_mcal (pv 0) c_PartReader_let_rows hr (pa_cons (pe_op op_addG (pv 1) pe_int) pa_nil)))
  (pss_one (ps_ret (pe_tupN (pa_cons pe_str (pa_cons (pv 4) (pa_cons (pe_mcal (pv 0) c_PartReader_part hr (pa_cons (pe_op op_addG (pv 1) pe_int) pa_nil)) pa_nil))))))) pss_nil)
  (pss_cons (ps_if (pt_cmpR (op_eqG (hu2_of hr)) (pe_ixG (hu_of hr) (pv 2) pe_int (fun _ _ => rfl)) pe_str (nomark _)) (pss_one (ps_ret (pe_tupN (pa_cons pe_str (pa_cons (pe_slice sl_any (pv 2) (po_some pe_int) po_none) pa_nil))))) pss_nil)
  (pss_cons (ps_if (pt_cmpR (op_eqG (hu2_of hr)) (pe_ixG (hu_of hr) (pv 2) pe_int (fun _ _ => rfl)) pe_str (nomark _)) (pss_one (ps_ret (pe_tupN (pa_cons pe_str (pa_cons (pe_slice sl_any (pv 2) (po_some pe_int) po_none) pa_nil))))) pss_nil)
  (pss_one (ps_ret (pe_tupN (pa_cons pe_str (pa_cons (pe_callTy call_intA (by rfl) T.n_int (by decide +kernel) (pa_cons (pv 2) pa_nil)) pa_nil))))))))))
abbrev st_PartReader_whole : Stmt := inClass (topS 38) 7
theorem sc_PartReader_whole : FnScope ["self", "found"] ["self"] (defScope st_PartReader_whole) := ⟨rfl, rfl, rfl, by decide +kernel, rfl, by decide +kernel, by decide +kernel⟩
theorem mk_PartReader_whole {P : Program} {w : World} {K : PySem.W.Frag} {mg : Str → Option Value} {base : Heap} (T : TX w K mg) {j : Nat} {sp : Sp} {s_PartReader_part s_PartReader_refuse : Sp} (c_PartReader_part : MCal P w K mg base j (He.ga K "PartReader") "part" s_PartReader_part) (c_PartReader_refuse : MCal P w K mg base j (He.ga K "PartReader") "refuse" s_PartReader_refuse)
    (pure_ : PureOk 1 sp (t_PartReader_whole K w s_PartReader_part s_PartReader_refuse) 2) : MCal P w K mg base (j + 1) (He.ga K "PartReader") "whole" sp := by
  obtain ⟨fd, F⟩ := T.d_PartReader_whole
  refine mcal_mk F T.m_PartReader_whole T.c_PartReader sc_PartReader_whole (F.bindsN fun _ _ _ _ _ _ us hl => match us, hl with | [_], _ => rfl) pure_.len fun cdv A outer s H vs Q E hr h => ?_
  refine ⟨t_PartReader_whole K w s_PartReader_part s_PartReader_refuse, PSs.nox ?_, pure_.run vs H Q E h⟩
  exact (pss_cons (ps_set (i := 1) sc_PartReader_whole.nd rfl (Or.inl rfl) (pe_mcal (pv 0) c_PartReader_part hr (pa_cons pe_int pa_nil)))
  (pss_cons (ps_if (pt_cmpR op_lt (pe_fld (pv 0) rfl) (pe_callB call_lenG (by rfl) T.n_len (by decide +kernel) (pa_cons (pe_fld (pv 0) rfl) pa_nil)) (nomark _)) (pss_one (ps_expr (pe_mcal0 (pv 0) c_PartReader_refuse hr))) pss_nil)
  (pss_one (ps_ret (pv 1)))))
abbrev st_read_part : Stmt := topS 39
theorem sc_read_part : FnScope ["row", "words", "at"] ["row", "words", "at"] (defScope st_read_part) := ⟨rfl, rfl, rfl, by decide +kernel, rfl, by decide +kernel, by decide +kernel⟩
theorem mk_read_part {P : Program} {w : World} {K : PySem.W.Frag} {mg : Str → Option Value} {base : Heap} (T : TX w K mg) {j : Nat} {sp : Sp} {s_PartReader___init__ s_PartReader_whole : Sp} (c_PartReader___init__ : KCal P w K mg base j "PartReader" (He.ga K "PartReader") s_PartReader___init__) (c_PartReader_whole : MCal P w K mg base j (He.ga K "PartReader") "whole" s_PartReader_whole)
    (pure_ : PureOk 3 sp (t_read_part K w s_PartReader___init__ s_PartReader_whole) 3) : Cal P w K mg base (j + 1) "read_part" sp := by
  obtain ⟨fd, F⟩ := T.d_read_part
  refine cal_mk F T.f_read_part sc_read_part (F.bindsN fun _ _ _ _ _ _ us hl => match us, hl with | [_, _, _], _ => rfl) pure_.len fun cdv A outer s H vs Q E hr h => ?_
  refine ⟨t_read_part K w s_PartReader___init__ s_PartReader_whole, PSs.nox ?_, pure_.run vs H Q E h⟩
  exact (pss_one (ps_ret (pe_mcal0 (pe_kcal c_PartReader___init__ hr rfl (pa_cons (pv 0) (pa_cons (pv 1) (pa_cons (pv 2) pa_nil)))) c_PartReader_whole hr)))
abbrev st_read_function : Stmt := topS 40
theorem sc_read_function : FnScope ["row", "words", "at", "names"] ["row", "words"] (defScope st_read_function) := ⟨rfl, rfl, rfl, by decide +kernel, rfl, by decide +kernel, by decide +kernel⟩
theorem mk_read_function {P : Program} {w : World} {K : PySem.W.Frag} {mg : Str → Option Value} {base : Heap} (T : TX w K mg) {j : Nat} {sp : Sp} {s_is_name s_is_marked s_read_part : Sp} (c_is_name : Cal P w K mg base j "is_name" s_is_name) (c_is_marked : Cal P w K mg base j "is_marked" s_is_marked) (c_read_part : Cal P w K mg base j "read_part" s_read_part)
    (pure_ : PureOk 2 sp (t_read_function K w s_is_name s_is_marked s_read_part) 4) : Cal P w K mg base (j + 1) "read_function" sp := by
  obtain ⟨fd, F⟩ := T.d_read_function
  refine cal_mk F T.f_read_function sc_read_function (F.bindsN fun _ _ _ _ _ _ us hl => match us, hl with | [_, _], _ => rfl) pure_.len fun cdv A outer s H vs Q E hr h => ?_
  refine ⟨t_read_function K w s_is_name s_is_marked s_read_part, PSs.nox ?_, pure_.run vs H Q E h⟩
  exact (pss_cons (ps_if (pt_not (pt_tru (pe_cal c_is_name hr rfl (pa_cons (pe_ixG (hu_of hr) (pv 1) pe_int (fun _ _ => rfl)) pa_nil)) (by intro _; rfl))) (pss_one ps_never) pss_nil)
  (pss_cons (ps_set (i := 2) sc_read_function.nd rfl (Or.inl rfl) pe_int)
  (pss_cons (ps_set (i := 3) sc_read_function.nd rfl (Or.inl rfl) (pe_lstN pa_nil))
  (pss_cons (ps_while PassesOwn.never (PW.pt (pw_and (pt_cmpR op_lt (pv 2) (pe_callB call_lenG (by rfl) T.n_len (by decide +kernel) (pa_cons (pv 1) pa_nil)) (nomark _)) (pw_and (pt_tru (pe_cal c_is_marked hr rfl (pa_cons (pe_ixG (hu_of hr) (pv 1) (pv 2) (fun _ _ => rfl)) (pa_cons pe_str pa_nil))) (by intro _; rfl)) (pw_and1 (pt_cmpR op_lt (pe_callB call_lenG (by rfl) T.n_len (by decide +kernel) (pa_cons (pv 3) pa_nil)) (pe_gc rfl T.v_MOST_NAMES) (nomark _)))))) (pss_cons (ps_expr (pe_bm PySem.F.plainAttrs_list PySem.F.slot_list_append PySem.F.type_list_append mt_appendG (pv 3) (pa_cons (pe_slice sl_any (pe_ixG (hu_of hr) (pv 1) (pv 2) (fun _ _ => rfl)) (po_some pe_int) po_none) pa_nil)))
  (pss_one (ps_set (i := 2) sc_read_function.nd rfl (Or.inl rfl) (pe_op op_addG (pv 2) pe_int)))))
  (pss_cons (ps_if (PW.pt (pw_or (pt_cmpR (op_eqG (hu2_of hr)) (pv 2) (pe_callB call_lenG (by rfl) T.n_len (by decide +kernel) (pa_cons (pv 1) pa_nil)) (nomark _)) (pw_or1 (pt_cmpR (op_neG (hu2_of hr)) (pe_ixG (hu_of hr) (pv 1) (pv 2) (fun _ _ => rfl)) pe_str (nomark _))))) (pss_one ps_never) pss_nil)
  (pss_one (ps_ret (pe_tupN (pa_cons (pe_ixG (hu_of hr) (pv 1) pe_int (fun _ _ => rfl)) (pa_cons (pe_callTy call_tupleG (by rfl) T.n_tuple (by decide +kernel) (pa_cons (pv 3) pa_nil)) (pa_cons (pe_cal c_read_part hr rfl (pa_cons (pv 0) (pa_cons (pv 1) (pa_cons (pe_op op_addG (pv 2) pe_int) pa_nil)))) pa_nil)))))))))))
abbrev st_read : Stmt := topS 41
theorem sc_read : FnScope ["text", "functions", "asked", "rows", "row", "line", "words"] ["text"] (defScope st_read) := ⟨rfl, rfl, rfl, by decide +kernel, rfl, by decide +kernel, by decide +kernel⟩
theorem mk_read {P : Program} {w : World} {K : PySem.W.Frag} {mg : Str → Option Value} {base : Heap} (T : TX w K mg) {j : Nat} {sp : Sp} {s_read_part s_read_function s_looked : Sp} (c_read_part : Cal P w K mg base j "read_part" s_read_part) (c_read_function : Cal P w K mg base j "read_function" s_read_function) (c_looked : CalX P w K mg base j "looked" s_looked)
    (pure_ : PureOkX 1 sp (tx_read K w s_read_part s_read_function s_looked) 7) : CalX P w K mg base (j + 1) "read" sp := by
  obtain ⟨fd, F⟩ := T.d_read
  refine calx_mk F T.f_read sc_read (F.bindsN fun _ _ _ _ _ _ us hl => match us, hl with | [_], _ => rfl) pure_.len fun cdv A outer s H vs Q E hr h => ?_
  refine ⟨tx_read K w s_read_part s_read_function s_looked E, ?_, pure_.run vs H Q E h⟩
  exact (pss_cons (ps_set (i := 1) sc_read.nd rfl (Or.inl rfl) (pe_lstN pa_nil))
  (pss_cons (ps_set (i := 2) sc_read.nd rfl (Or.inl rfl) pe_non)
  (pss_cons (ps_set (i := 3) sc_read.nd rfl (Or.inl rfl) (pe_splitG (pv 0) pe_str))
  (pss_cons (ps_for (passes_of rfl) rfl (pi_enum (by rfl) T.n_enumerate (pa_cons (pv 3) pa_nil)) (pg_tup rfl (pgs_cons (pg_name (i := 4) sc_read.nd rfl (by first | exact Or.inl rfl | exact Or.inr rfl)) (pgs_cons (pg_name (i := 5) sc_read.nd rfl (by first | exact Or.inl rfl | exact Or.inr rfl)) pgs_nil))) (pss_cons (ps_set (i := 6) sc_read.nd rfl (Or.inl rfl) (pe_splitG (pv 5) pe_str))
  (pss_cons (ps_if (pt_cmpR op_isNotG (pv 2) pe_non (nomark _)) (pss_one ps_never) pss_nil)
  (pss_one (ps_if (pt_cmpR (op_eqG (hu2_of hr)) (pe_ixG (hu_of hr) (pv 6) pe_int (fun _ _ => rfl)) pe_str (nomark _)) (pss_one (ps_set (i := 2) sc_read.nd rfl (Or.inl rfl) (pe_cal c_read_part hr rfl (pa_cons (pv 4) (pa_cons (pv 6) (pa_cons pe_int pa_nil)))))) (pss_one (ps_if (pt_cmpR (op_eqG (hu2_of hr)) (pe_callB call_lenG (by rfl) T.n_len (by decide +kernel) (pa_cons (pv 1) pa_nil)) (pe_gc rfl T.v_MOST_FUNCTIONS) (nomark _)) (pss_one ps_never) (pss_one (ps_expr (pe_bm PySem.F.plainAttrs_list PySem.F.slot_list_append PySem.F.type_list_append mt_appendG (pv 1) (pa_cons (pe_cal c_read_function hr rfl (pa_cons (pv 4) (pa_cons (pv 6) pa_nil))) pa_nil)))))))))))
  (pss_cons (ps_if (pt_cmpR op_isG (pv 2) pe_non (nomark _)) (pss_one ps_never) pss_nil)
  (pss_one (ps_ret (pe_calE c_looked hr rfl (takes_of rfl rfl rfl rfl) (pa_cons (pe_tupN (pa_cons (pe_callTy call_tupleG (by rfl) T.n_tuple (by decide +kernel) (pa_cons (pv 1) pa_nil)) (pa_cons (pv 2) pa_nil))) pa_nil)))))))))
abbrev st_words_of : Stmt := topS 43
theorem sc_words_of : FnScope ["part", "words", "one", "name"] ["part"] (defScope st_words_of) := ⟨rfl, rfl, rfl, by decide +kernel, rfl, by decide +kernel, by decide +kernel⟩
theorem mk_words_of {P : Program} {w : World} {K : PySem.W.Frag} {mg : Str → Option Value} {base : Heap} (T : TX w K mg) {j : Nat} {sp : Sp} {s_words_of : Sp} (c_words_of : Cal P w K mg base j "words_of" s_words_of)
    (pure_ : PureOk 1 sp (t_words_of K w s_words_of) 4) : Cal P w K mg base (j + 1) "words_of" sp := by
  obtain ⟨fd, F⟩ := T.d_words_of
  refine cal_mk F T.f_words_of sc_words_of (F.bindsN fun _ _ _ _ _ _ us hl => match us, hl with | [_], _ => rfl) pure_.len fun cdv A outer s H vs Q E hr h => ?_
  refine ⟨t_words_of K w s_words_of, PSs.nox ?_, pure_.run vs H Q E h⟩
  exact (pss_cons (ps_if (pt_cmpR (op_eqG (hu2_of hr)) (pe_ixG (hu_of hr) (pv 0) pe_int (fun _ _ => rfl)) pe_str (nomark _)) (pss_one (ps_ret (pe_lstN (pa_cons (pe_callTy call_str_int (by rfl) T.n_str (by decide +kernel) (pa_cons (pe_ixG (hu_of hr) (pv 0) pe_int (fun _ _ => rfl)) pa_nil)) pa_nil)))) pss_nil)
  (pss_cons (ps_if (pt_cmpR (op_eqG (hu2_of hr)) (pe_ixG (hu_of hr) (pv 0) pe_int (fun _ _ => rfl)) pe_str (nomark _)) (pss_one (ps_ret (pe_lstN (pa_cons (pe_op op_addG pe_str (pe_ixG (hu_of hr) (pv 0) pe_int (fun _ _ => rfl))) pa_nil)))) pss_nil)
  (pss_cons (ps_if (pt_cmpR (op_eqG (hu2_of hr)) (pe_ixG (hu_of hr) (pv 0) pe_int (fun _ _ => rfl)) pe_str (nomark _)) (pss_one (ps_ret (pe_lstN (pa_cons (pe_op op_addG pe_str (pe_ixG (hu_of hr) (pv 0) pe_int (fun _ _ => rfl))) pa_nil)))) pss_nil)
  (pss_cons (ps_set (i := 1) sc_words_of.nd rfl (Or.inl rfl) (pe_lstN (pa_cons (pe_ixG (hu_of hr) (pv 0) pe_int (fun _ _ => rfl)) pa_nil)))
  (pss_cons (ps_if (pt_cmpR (op_inG (hu_of hr)) (pe_ixG (hu_of hr) (pv 0) pe_int (fun _ _ => rfl)) (pe_glob (v := .ref (He.ga K "PARTS")) rfl T.g_PARTS rfl) (by rfl)) (pss_cons (ps_for PassesOwn.never rfl (pi_seq (pe_slice sl_any (pv 0) (po_some pe_int) po_none)) (pg_name (i := 2) sc_words_of.nd rfl (by first | exact Or.inl rfl | exact Or.inr rfl)) (pss_one (ps_expr (pe_bm PySem.F.plainAttrs_list PySem.F.slot_list_extend PySem.F.type_list_extend mt_extendG (pv 1) (pa_cons (pe_cal c_words_of hr rfl (pa_cons (pv 2) pa_nil)) pa_nil)))))
  (pss_one (ps_ret (pv 1)))) pss_nil)
  (pss_cons (ps_expr (pe_bm PySem.F.plainAttrs_list PySem.F.slot_list_append PySem.F.type_list_append mt_appendG (pv 1) (pa_cons (pe_callTy call_str_int (by rfl) T.n_str (by decide +kernel) (pa_cons (pe_callB call_lenG (by rfl) T.n_len (by decide +kernel) (pa_cons (pe_ixG (hu_of hr) (pv 0) pe_int (fun _ _ => rfl)) pa_nil)) pa_nil)) pa_nil)))
  (pss_cons (ps_for PassesOwn.never rfl (pi_seq (pe_ixG (hu_of hr) (pv 0) pe_int (fun _ _ => rfl))) (pg_tup rfl (pgs_cons (pg_name (i := 3) sc_words_of.nd rfl (by first | exact Or.inl rfl | exact Or.inr rfl)) (pgs_cons (pg_name (i := 2) sc_words_of.nd rfl (by first | exact Or.inl rfl | exact Or.inr rfl)) pgs_nil))) (pss_cons (ps_expr (pe_bm PySem.F.plainAttrs_list PySem.F.slot_list_append PySem.F.type_list_append mt_appendG (pv 1) (pa_cons (pe_op op_addG pe_str (pv 3)) pa_nil)))
  (pss_one (ps_expr (pe_bm PySem.F.plainAttrs_list PySem.F.slot_list_extend PySem.F.type_list_extend mt_extendG (pv 1) (pa_cons (pe_cal c_words_of hr rfl (pa_cons (pv 2) pa_nil)) pa_nil))))))
  (pss_one (ps_ret (pe_op op_addG (pv 1) (pe_cal c_words_of hr rfl (pa_cons (pe_ixG (hu_of hr) (pv 0) pe_int (fun _ _ => rfl)) pa_nil))))))))))))
abbrev st_part_text : Stmt := topS 44
theorem sc_part_text : FnScope ["part"] ["part"] (defScope st_part_text) := ⟨rfl, rfl, rfl, by decide +kernel, rfl, by decide +kernel, by decide +kernel⟩
theorem mk_part_text {P : Program} {w : World} {K : PySem.W.Frag} {mg : Str → Option Value} {base : Heap} (T : TX w K mg) {j : Nat} {sp : Sp} {s_words_of : Sp} (c_words_of : Cal P w K mg base j "words_of" s_words_of)
    (pure_ : PureOk 1 sp (t_part_text K w s_words_of) 1) : Cal P w K mg base (j + 1) "part_text" sp := by
  obtain ⟨fd, F⟩ := T.d_part_text
  refine cal_mk F T.f_part_text sc_part_text (F.bindsN fun _ _ _ _ _ _ us hl => match us, hl with | [_], _ => rfl) pure_.len fun cdv A outer s H vs Q E hr h => ?_
  refine ⟨t_part_text K w s_words_of, PSs.nox ?_, pure_.run vs H Q E h⟩
  exact (pss_one (ps_ret (pe_join pe_str (pe_cal c_words_of hr rfl (pa_cons (pv 0) pa_nil)))))
abbrev st_function_text : Stmt := topS 45
theorem sc_function_text : FnScope ["function", "name", "names", "body", "one"] ["function"] (defScope st_function_text) := ⟨rfl, rfl, rfl, by decide +kernel, rfl, by decide +kernel, by decide +kernel⟩
theorem mk_function_text {P : Program} {w : World} {K : PySem.W.Frag} {mg : Str → Option Value} {base : Heap} (T : TX w K mg) {j : Nat} {sp : Sp} {s_words_of : Sp} (c_words_of : Cal P w K mg base j "words_of" s_words_of)
    (pure_ : PureOk 1 sp (t_function_text K w s_words_of) 5) : Cal P w K mg base (j + 1) "function_text" sp := by
  obtain ⟨fd, F⟩ := T.d_function_text
  refine cal_mk F T.f_function_text sc_function_text (F.bindsN fun _ _ _ _ _ _ us hl => match us, hl with | [_], _ => rfl) pure_.len fun cdv A outer s H vs Q E hr h => ?_
  refine ⟨t_function_text K w s_words_of, PSs.nox ?_, pure_.run vs H Q E h⟩
  exact (pss_cons (ps_asg (pv 0) (pg_tup rfl (pgs_cons (pg_name (i := 1) sc_function_text.nd rfl (by first | exact Or.inl rfl | exact Or.inr rfl)) (pgs_cons (pg_name (i := 2) sc_function_text.nd rfl (by first | exact Or.inl rfl | exact Or.inr rfl)) (pgs_cons (pg_name (i := 3) sc_function_text.nd rfl (by first | exact Or.inl rfl | exact Or.inr rfl)) pgs_nil)))))
  (pss_one (ps_ret (pe_join pe_str (pe_op op_addG (pe_op op_addG (pe_op op_addG (pe_lstN (pa_cons (pv 1) pa_nil)) (pe_lc (own := [("one", 4)]) (g := (gName 4)) (tt := tYes) rfl sc_function_text.nd (pi_seq (pv 2)) (blkOk_by (by kernel_rfl)) (fun _ _ _ _ _ => (pg_name (i := 4) sc_function_text.nd rfl (by first | exact Or.inl rfl | exact Or.inr rfl))) (fun _ _ _ _ _ => pts_nil) (fun _ _ _ _ _ => (pe_op op_addG pe_str (pv 4))))) (pe_lstN (pa_cons pe_str pa_nil))) (pe_cal c_words_of hr rfl (pa_cons (pv 3) pa_nil)))))))
abbrev st_written : Stmt := topS 46
theorem sc_written : FnScope ["program", "rows", "function"] ["program"] (defScope st_written) := ⟨rfl, rfl, rfl, by decide +kernel, rfl, by decide +kernel, by decide +kernel⟩
theorem mk_written {P : Program} {w : World} {K : PySem.W.Frag} {mg : Str → Option Value} {base : Heap} (T : TX w K mg) {j : Nat} {sp : Sp} {s_function_text s_part_text : Sp} (c_function_text : Cal P w K mg base j "function_text" s_function_text) (c_part_text : Cal P w K mg base j "part_text" s_part_text)
    (pure_ : PureOk 1 sp (t_written K w s_function_text s_part_text) 3) : Cal P w K mg base (j + 1) "written" sp := by
  obtain ⟨fd, F⟩ := T.d_written
  refine cal_mk F T.f_written sc_written (F.bindsN fun _ _ _ _ _ _ us hl => match us, hl with | [_], _ => rfl) pure_.len fun cdv A outer s H vs Q E hr h => ?_
  refine ⟨t_written K w s_function_text s_part_text, PSs.nox ?_, pure_.run vs H Q E h⟩
  exact (pss_cons (ps_setLc (i := 1) (own := [("function", 2)]) (g := (gName 2)) (tt := tYes) rfl sc_written.nd rfl rfl (sw_true rfl rfl rfl (by decide +kernel)) (pi_seq (pe_ixG (hu_of hr) (pv 0) pe_int (fun _ _ => rfl))) (blkOk_by (by kernel_rfl)) (fun _ _ _ _ _ => (pg_name (i := 2) sc_written.nd rfl (by first | exact Or.inl rfl | exact Or.inr rfl))) (fun _ _ _ _ _ => pts_nil) (fun _ _ _ _ _ => (pe_cal c_function_text hr rfl (pa_cons (pv 2) pa_nil))))
  (pss_one (ps_ret (pe_join pe_str (pe_op op_addG (pv 1) (pe_lstN (pa_cons (pe_op op_addG pe_str (pe_cal c_part_text hr rfl (pa_cons (pe_ixG (hu_of hr) (pv 0) pe_int (fun _ _ => rfl)) pa_nil))) pa_nil)))))))
abbrev st_law_pen : Stmt := topS 48
theorem sc_law_pen : FnScope ["_law_script"] ["_law_script"] (defScope st_law_pen) := ⟨rfl, rfl, rfl, by decide +kernel, rfl, by decide +kernel, by decide +kernel⟩
theorem mk_law_pen {P : Program} {w : World} {K : PySem.W.Frag} {mg : Str → Option Value} {base : Heap} (T : TX w K mg) {j : Nat} {sp : Sp}
    (pure_ : PureOk 1 sp (t_law_pen K w ) 1) : Cal P w K mg base (j + 1) "_law_pen" sp := by
  obtain ⟨fd, F⟩ := T.d_law_pen
  refine cal_mk F T.f_law_pen sc_law_pen (F.bindsN fun _ _ _ _ _ _ us hl => match us, hl with | [_], _ => rfl) pure_.len fun cdv A outer s H vs Q E hr h => ?_
  refine ⟨t_law_pen K w , PSs.nox ?_, pure_.run vs H Q E h⟩
  exact (pss_one (ps_ret (pe_lstN (pa_cons (pe_callTy (call_listG rfl) (by rfl) T.n_list (by decide +kernel) (pa_cons (pe_slice sl_any (pv 0) po_none (po_some pe_int)) pa_nil)) (pa_cons pe_int (pa_cons pe_int pa_nil))))))
abbrev st_law_draw : Stmt := topS 49
theorem sc_law_draw : FnScope ["_law_pen_here", "_law_many", "_law_digit", "_law_at", "_law_cell", "_law_prime", "_law_number"] ["_law_pen_here", "_law_many"] (defScope st_law_draw) := ⟨rfl, rfl, rfl, by decide +kernel, rfl, by decide +kernel, by decide +kernel⟩
theorem mk_law_draw {P : Program} {w : World} {K : PySem.W.Frag} {mg : Str → Option Value} {base : Heap} (T : TX w K mg) {j : Nat} {sp : Sp}
    (pure_ : PureOk 2 sp (t_law_draw K w ) 7) : Cal P w K mg base (j + 1) "_law_draw" sp := by
  obtain ⟨fd, F⟩ := T.d_law_draw
  refine cal_mk F T.f_law_draw sc_law_draw (F.bindsN fun _ _ _ _ _ _ us hl => match us, hl with | [_, _], _ => rfl) pure_.len fun cdv A outer s H vs Q E hr h => ?_
  refine ⟨t_law_draw K w , PSs.nox ?_, pure_.run vs H Q E h⟩
  exact (pss_cons (ps_if (pt_cmpR op_gt (pe_ixG (hu_of hr) (pv 0) pe_int (fun _ _ => rfl)) pe_int (nomark _)) (pss_cons (ps_set (i := 2) sc_law_draw.nd rfl (Or.inl rfl) (pe_op op_mod (pe_ixG (hu_of hr) (pv 0) pe_int (fun _ _ => rfl)) (pv 1)))
  (pss_cons (ps_asg (pe_op op_fdivW (pe_ixG (hu_of hr) (pv 0) pe_int (fun _ _ => rfl)) (pv 1)) (pg_sub (pv 0) pe_int (set_any (hu_of hr))))
  (pss_one (ps_ret (pv 2))))) pss_nil)
  (pss_cons (ps_set (i := 3) sc_law_draw.nd rfl (Or.inl rfl) (pe_ixG (hu_of hr) (pv 0) pe_int (fun _ _ => rfl)))
  (pss_cons (ps_asg (pe_op op_addG (pv 3) pe_int) (pg_sub (pv 0) pe_int (set_any (hu_of hr))))
  (pss_cons (ps_set (i := 4) sc_law_draw.nd rfl (Or.inl rfl) (pe_ixG (hu_of hr) (pe_op op_addG (pe_ixG (hu_of hr) (pv 0) pe_int (fun _ _ => rfl)) (pe_lstN (pa_cons pe_int pa_nil))) (pe_op op_mod (pv 3) (pe_callB (call_max2 rfl) (by rfl) T.n_max (by decide +kernel) (pa_cons pe_int (pa_cons (pe_callB call_lenG (by rfl) T.n_len (by decide +kernel) (pa_cons (pe_ixG (hu_of hr) (pv 0) pe_int (fun _ _ => rfl)) pa_nil)) pa_nil)))) (fun _ _ => rfl)))
  (pss_cons (ps_if (PW.pt (pw_and (pt_cmpR op_lt (pv 3) (pe_callB call_lenG (by rfl) T.n_len (by decide +kernel) (pa_cons (pe_ixG (hu_of hr) (pv 0) pe_int (fun _ _ => rfl)) pa_nil)) (nomark _)) (pw_and1 (pt_cmpR op_ge (pe_callB call_abs (by rfl) T.n_abs (by decide +kernel) (pa_cons (pv 4) pa_nil)) (pe_op op_pow pe_int pe_int) (nomark _))))) (pss_cons (ps_asg (pe_op op_fdivW (pe_callB call_abs (by rfl) T.n_abs (by decide +kernel) (pa_cons (pv 4) pa_nil)) (pv 1)) (pg_sub (pv 0) pe_int (set_any (hu_of hr))))
  (pss_one (ps_ret (pe_op op_mod (pe_callB call_abs (by rfl) T.n_abs (by decide +kernel) (pa_cons (pv 4) pa_nil)) (pv 1))))) pss_nil)
  (pss_cons (ps_set (i := 5) sc_law_draw.nd rfl (Or.inl rfl) (pe_ixG (hu_of hr) (pe_lstN (pa_cons pe_int (pa_cons pe_int (pa_cons pe_int (pa_cons pe_int (pa_cons pe_int (pa_cons pe_int (pa_cons pe_int pa_nil)))))))) (pe_op op_mod (pv 3) pe_int) (fun _ _ => rfl)))
  (pss_cons (ps_set (i := 6) sc_law_draw.nd rfl (Or.inl rfl) (pe_op op_mod (pe_op op_mulG (pe_op op_addG (pe_op op_addG (pe_op op_mod (pv 4) pe_int) (pe_op op_mulG pe_int (pv 3))) pe_int) pe_int) (pv 5)))
  (pss_cons (ps_set (i := 6) sc_law_draw.nd rfl (Or.inl rfl) (pe_op op_mod (pe_op op_addG (pe_op op_addG (pe_op op_mulG (pv 6) (pv 6)) (pe_op op_mulG pe_int (pv 6))) (pv 3)) pe_int))
  (pss_one (ps_ret (pe_op op_mod (pe_op op_fdivW (pe_op op_mod (pe_op op_mulG (pv 6) pe_int) pe_int) pe_int) (pv 1))))))))))))
abbrev st_law_is_name : Stmt := topS 50
theorem sc_law_is_name : FnScope ["_law_thing", "_law_sign"] ["_law_thing"] (defScope st_law_is_name) := ⟨rfl, rfl, rfl, by decide +kernel, rfl, by decide +kernel, by decide +kernel⟩
theorem mk_law_is_name {P : Program} {w : World} {K : PySem.W.Frag} {mg : Str → Option Value} {base : Heap} (T : TX w K mg) {j : Nat} {sp : Sp}
    (pure_ : PureOk 1 sp (t_law_is_name K w ) 2) : Cal P w K mg base (j + 1) "_law_is_name" sp := by
  obtain ⟨fd, F⟩ := T.d_law_is_name
  refine cal_mk F T.f_law_is_name sc_law_is_name (F.bindsN fun _ _ _ _ _ _ us hl => match us, hl with | [_], _ => rfl) pure_.len fun cdv A outer s H vs Q E hr h => ?_
  refine ⟨t_law_is_name K w , PSs.nox ?_, pure_.run vs H Q E h⟩
  exact (pss_cons (ps_if (PW.pt (pw_or (pt_not (pt_tru (pe_callB call_isiG (by rfl) T.n_isinstance (by decide +kernel) (pa_cons (pv 0) (pa_cons (pe_bltn (v := .ty "str") rfl T.n_str (by decide +kernel) rfl) pa_nil))) (by intro _; rfl))) (pw_or (pt_cmpR op_lt (pe_callB call_lenG (by rfl) T.n_len (by decide +kernel) (pa_cons (pv 0) pa_nil)) pe_int (nomark _)) (pw_or1 (pt_cmpR op_gt (pe_callB call_lenG (by rfl) T.n_len (by decide +kernel) (pa_cons (pv 0) pa_nil)) pe_int (nomark _)))))) (pss_one (ps_ret pe_bl)) pss_nil)
  (pss_one (ps_ret (pe_cmpR (op_eqG (hu2_of hr)) (pe_lc (own := [("_law_sign", 1)]) (g := (gName 1)) (tt := (tTest (tOp (rInG K w true) (tVar 1) (tC (.str "abcdefghijklmnopqrstuvwxyz"))))) rfl sc_law_is_name.nd (pi_seq (pv 0)) (blkOk_by (by kernel_rfl)) (fun _ _ _ _ _ => (pg_name (i := 1) sc_law_is_name.nd rfl (by first | exact Or.inl rfl | exact Or.inr rfl))) (fun _ _ _ _ _ => (pts_one (pt_cmpR (op_notInG (hu_of hr)) (pv 1) pe_str (by rfl)))) (fun _ _ _ _ _ => (pv 1))) (pe_lstN pa_nil) (nomark _)))))
abbrev st_law_inner : Stmt := topS 51
theorem sc_law_inner : FnScope ["_law_thing", "_law_counts", "_law_row"] ["_law_thing"] (defScope st_law_inner) := ⟨rfl, rfl, rfl, by decide +kernel, rfl, by decide +kernel, by decide +kernel⟩
theorem mk_law_inner {P : Program} {w : World} {K : PySem.W.Frag} {mg : Str → Option Value} {base : Heap} (T : TX w K mg) {j : Nat} {sp : Sp} {s_law_is_name : Sp} (c_law_is_name : Cal P w K mg base j "_law_is_name" s_law_is_name)
    (pure_ : PureOk 1 sp (t_law_innerX K w s_law_is_name) 3) : Cal P w K mg base (j + 1) "_law_inner" sp := by
  obtain ⟨fd, F⟩ := T.d_law_inner
  refine cal_mk F T.f_law_inner sc_law_inner (F.bindsN fun _ _ _ _ _ _ us hl => match us, hl with | [_], _ => rfl) pure_.len fun cdv A outer s H vs Q E hr h => ?_
  refine ⟨t_law_innerX K w s_law_is_name, PSs.nox ?_, pure_.run vs H Q E h⟩
  exact (pss_cons (ps_if (PW.pt (pw_or (pt_not (pt_tru (pe_callB call_isiG (by rfl) T.n_isinstance (by decide +kernel) (pa_cons (pv 0) (pa_cons (pe_bltn (v := .ty "tuple") rfl T.n_tuple (by decide +kernel) rfl) pa_nil))) (by intro _; rfl))) (pw_or (pt_cmpR op_lt (pe_callB call_lenG (by rfl) T.n_len (by decide +kernel) (pa_cons (pv 0) pa_nil)) pe_int (nomark _)) (pw_or1 (pt_not (pt_tru (pe_callB call_isiG (by rfl) T.n_isinstance (by decide +kernel) (pa_cons (pe_ixG (hu_of hr) (pv 0) pe_int (fun _ _ => rfl)) (pa_cons (pe_bltn (v := .ty "str") rfl T.n_str (by decide +kernel) rfl) pa_nil))) (by intro _; rfl))))))) (pss_one (ps_ret pe_non)) pss_nil)
  (pss_cons (ps_set (i := 1) sc_law_inner.nd rfl (Or.inl rfl) (pe_dispN (pps_cons (pe_cl pe_str) (pe_cl pe_int) (pps_cons (pe_cl pe_str) (pe_cl pe_int) (pps_cons (pe_cl pe_str) (pe_cl pe_int) (pps_cons (pe_cl pe_str) (pe_cl pe_int) (pps_cons (pe_cl pe_str) (pe_cl pe_int) (pps_cons (pe_cl pe_str) (pe_cl pe_int) (pps_cons (pe_cl pe_str) (pe_cl pe_int) (pps_cons (pe_cl pe_str) (pe_cl pe_int) (pps_cons (pe_cl pe_str) (pe_cl pe_int) pps_nil))))))))) (by rfl) (by rfl) (fun z => by cases z) (by decide)))
  (pss_cons (ps_if (PW.pt (pw_and (pt_cmpR (op_inG (hu_of hr)) (pe_ixG (hu_of hr) (pv 0) pe_int (fun _ _ => rfl)) (pv 1) (by rfl)) (pw_and1 (pt_cmpR (op_eqG (hu2_of hr)) (pe_callB call_lenG (by rfl) T.n_len (by decide +kernel) (pa_cons (pv 0) pa_nil)) (pe_op op_addG (pe_ixG (hu_of hr) (pv 1) (pe_ixG (hu_of hr) (pv 0) pe_int (fun _ _ => rfl)) (fun _ _ => rfl)) pe_int) (nomark _))))) (pss_one (ps_ret (pe_callTy (call_listG rfl) (by rfl) T.n_list (by decide +kernel) (pa_cons (pe_slice sl_any (pv 0) (po_some pe_int) po_none) pa_nil)))) pss_nil)
  (pss_cons (ps_if (PW.pt (pw_and (pt_cmpR (op_inG (hu_of hr)) (pe_ixG (hu_of hr) (pv 0) pe_int (fun _ _ => rfl)) (pe_tupN (pa_cons pe_str (pa_cons pe_str pa_nil))) (by rfl)) (pw_and (pt_cmpR (op_eqG (hu2_of hr)) (pe_callB call_lenG (by rfl) T.n_len (by decide +kernel) (pa_cons (pv 0) pa_nil)) pe_int (nomark _)) (pw_and1 (pt_tru (pe_cal c_law_is_name hr rfl (pa_cons (pe_ixG (hu_of hr) (pv 0) pe_int (fun _ _ => rfl)) pa_nil)) (by intro _; rfl)))))) (pss_one (ps_ret (pe_lstN pa_nil))) pss_nil)
  (pss_cons (ps_if (PW.pt (pw_and (pt_cmpR (op_eqG (hu2_of hr)) (pe_ixG (hu_of hr) (pv 0) pe_int (fun _ _ => rfl)) pe_str (nomark _)) (pw_and (pt_cmpR (op_eqG (hu2_of hr)) (pe_callB call_lenG (by rfl) T.n_len (by decide +kernel) (pa_cons (pv 0) pa_nil)) pe_int (nomark _)) (pw_and (pt_tru (pe_callB call_isiG (by rfl) T.n_isinstance (by decide +kernel) (pa_cons (pe_ixG (hu_of hr) (pv 0) pe_int (fun _ _ => rfl)) (pa_cons (pe_bltn (v := .ty "int") rfl T.n_int (by decide +kernel) rfl) pa_nil))) (by intro _; rfl)) (pw_and1 (pt_not (pt_tru (pe_callB call_isiG (by rfl) T.n_isinstance (by decide +kernel) (pa_cons (pe_ixG (hu_of hr) (pv 0) pe_int (fun _ _ => rfl)) (pa_cons (pe_bltn (v := .ty "bool") rfl T.n_bool (by decide +kernel) rfl) pa_nil))) (by intro _; rfl)))))))) (pss_one (ps_ret (pe_ifExp (pt_cmpR op_lt (pe_callB call_abs (by rfl) T.n_abs (by decide +kernel) (pa_cons (pe_ixG (hu_of hr) (pv 0) pe_int (fun _ _ => rfl)) pa_nil)) (pe_op op_pow pe_int pe_int) (nomark _)) (pe_lstN pa_nil) pe_non))) pss_nil)
  (pss_cons (ps_if (PW.pt (pw_and (pt_cmpR (op_eqG (hu2_of hr)) (pe_ixG (hu_of hr) (pv 0) pe_int (fun _ _ => rfl)) pe_str (nomark _)) (pw_and (pt_cmpR (op_eqG (hu2_of hr)) (pe_callB call_lenG (by rfl) T.n_len (by decide +kernel) (pa_cons (pv 0) pa_nil)) pe_int (nomark _)) (pw_and (pt_tru (pe_callB call_isiG (by rfl) T.n_isinstance (by decide +kernel) (pa_cons (pe_ixG (hu_of hr) (pv 0) pe_int (fun _ _ => rfl)) (pa_cons (pe_bltn (v := .ty "tuple") rfl T.n_tuple (by decide +kernel) rfl) pa_nil))) (by intro _; rfl)) (pw_and1 (pt_chain op_le op_le pe_int (pe_callB call_lenG (by rfl) T.n_len (by decide +kernel) (pa_cons (pe_ixG (hu_of hr) (pv 0) pe_int (fun _ _ => rfl)) pa_nil)) pe_int)))))) (pss_cons (ps_for PassesOwn.never rfl (pi_seq (pe_ixG (hu_of hr) (pv 0) pe_int (fun _ _ => rfl))) (pg_name (i := 2) sc_law_inner.nd rfl (by first | exact Or.inl rfl | exact Or.inr rfl)) (pss_one (ps_if (PW.pt (pw_or (pt_not (pt_tru (pe_callB call_isiG (by rfl) T.n_isinstance (by decide +kernel) (pa_cons (pv 2) (pa_cons (pe_bltn (v := .ty "tuple") rfl T.n_tuple (by decide +kernel) rfl) pa_nil))) (by intro _; rfl))) (pw_or (pt_cmpR (op_neG (hu2_of hr)) (pe_callB call_lenG (by rfl) T.n_len (by decide +kernel) (pa_cons (pv 2) pa_nil)) pe_int (nomark _)) (pw_or1 (pt_not (pt_tru (pe_cal c_law_is_name hr rfl (pa_cons (pe_ixG (hu_of hr) (pv 2) pe_int (fun _ _ => rfl)) pa_nil)) (by intro _; rfl))))))) (pss_one (ps_ret pe_non)) pss_nil)))
  (pss_one (ps_ret (pe_op op_addG (pe_lc (own := [("_law_row", 2)]) (g := (gName 2)) (tt := tYes) rfl sc_law_inner.nd (pi_seq (pe_ixG (hu_of hr) (pv 0) pe_int (fun _ _ => rfl))) (blkOk_by (by kernel_rfl)) (fun _ _ _ _ _ => (pg_name (i := 2) sc_law_inner.nd rfl (by first | exact Or.inl rfl | exact Or.inr rfl))) (fun _ _ _ _ _ => pts_nil) (fun _ _ _ _ _ => (pe_ixG (hu_of hr) (pv 2) pe_int (fun _ _ => rfl)))) (pe_lstN (pa_cons (pe_ixG (hu_of hr) (pv 0) pe_int (fun _ _ => rfl)) pa_nil)))))) pss_nil)
  (pss_one (ps_ret pe_non))))))))
abbrev st_law_is_body : Stmt := topS 52
theorem sc_law_is_body : FnScope ["_law_thing", "_law_rows", "_law_at", "_law_part", "_law_deep", "_law_inner_here", "_law_one"] ["_law_thing"] (defScope st_law_is_body) := ⟨rfl, rfl, rfl, by decide +kernel, rfl, by decide +kernel, by decide +kernel⟩
theorem mk_law_is_body {P : Program} {w : World} {K : PySem.W.Frag} {mg : Str → Option Value} {base : Heap} (T : TX w K mg) {j : Nat} {sp : Sp} {s_law_inner : Sp} (c_law_inner : Cal P w K mg base j "_law_inner" s_law_inner)
    (pure_ : PureOk 1 sp (t_law_is_body K w s_law_inner) 7) : Cal P w K mg base (j + 1) "_law_is_body" sp := by
  obtain ⟨fd, F⟩ := T.d_law_is_body
  refine cal_mk F T.f_law_is_body sc_law_is_body (F.bindsN fun _ _ _ _ _ _ us hl => match us, hl with | [_], _ => rfl) pure_.len fun cdv A outer s H vs Q E hr h => ?_
  refine ⟨t_law_is_body K w s_law_inner, PSs.nox ?_, pure_.run vs H Q E h⟩
  exact (pss_cons (ps_set (i := 1) sc_law_is_body.nd rfl (Or.inl rfl) (pe_lstN (pa_cons (pe_tupN (pa_cons (pv 0) (pa_cons pe_int pa_nil))) pa_nil)))
  (pss_cons (ps_set (i := 2) sc_law_is_body.nd rfl (Or.inl rfl) pe_int)
  (pss_cons (ps_while PassesOwn.never (pt_cmpR op_lt (pv 2) (pe_callB call_lenG (by rfl) T.n_len (by decide +kernel) (pa_cons (pv 1) pa_nil)) (nomark _)) (pss_cons (ps_asg (pe_ixG (hu_of hr) (pv 1) (pv 2) (fun _ _ => rfl)) (pg_tup rfl (pgs_cons (pg_name (i := 3) sc_law_is_body.nd rfl (by first | exact Or.inl rfl | exact Or.inr rfl)) (pgs_cons (pg_name (i := 4) sc_law_is_body.nd rfl (by first | exact Or.inl rfl | exact Or.inr rfl)) pgs_nil))))
  (pss_cons (ps_set (i := 5) sc_law_is_body.nd rfl (Or.inl rfl) (pe_cal c_law_inner hr rfl (pa_cons (pv 3) pa_nil)))
  (pss_cons (ps_if (PW.pt (pw_or (pt_cmpR op_isG (pv 5) pe_non (nomark _)) (pw_or (pt_cmpR op_gt (pv 4) pe_int (nomark _)) (pw_or1 (pt_cmpR op_gt (pv 2) pe_int (nomark _)))))) (pss_one (ps_ret pe_bl)) pss_nil)
  (pss_cons (ps_expr (pe_bm PySem.F.plainAttrs_list PySem.F.slot_list_extend PySem.F.type_list_extend mt_extendG (pv 1) (pa_cons (pe_lc (own := [("_law_one", 6)]) (g := (gName 6)) (tt := tYes) rfl sc_law_is_body.nd (pi_seq (pv 5)) (blkOk_by (by kernel_rfl)) (fun _ _ _ _ _ => (pg_name (i := 6) sc_law_is_body.nd rfl (by first | exact Or.inl rfl | exact Or.inr rfl))) (fun _ _ _ _ _ => pts_nil) (fun _ _ _ _ _ => (pe_tupN (pa_cons (pv 6) (pa_cons (pe_op op_addG (pv 4) pe_int) pa_nil))))) pa_nil)))
  (pss_one (ps_set (i := 2) sc_law_is_body.nd rfl (Or.inl rfl) (pe_op op_addG (pv 2) pe_int))))))))
  (pss_one (ps_ret pe_bl)))))
abbrev st_law_is_function : Stmt := topS 53
theorem sc_law_is_function : FnScope ["_law_thing", "_law_name_here"] ["_law_thing"] (defScope st_law_is_function) := ⟨rfl, rfl, rfl, by decide +kernel, rfl, by decide +kernel, by decide +kernel⟩
theorem mk_law_is_function {P : Program} {w : World} {K : PySem.W.Frag} {mg : Str → Option Value} {base : Heap} (T : TX w K mg) {j : Nat} {sp : Sp} {s_law_is_name s_law_is_body : Sp} (c_law_is_name : Cal P w K mg base j "_law_is_name" s_law_is_name) (c_law_is_body : Cal P w K mg base j "_law_is_body" s_law_is_body)
    (pure_ : PureOk 1 sp (t_law_is_function K w s_law_is_name s_law_is_body) 2) : Cal P w K mg base (j + 1) "_law_is_function" sp := by
  obtain ⟨fd, F⟩ := T.d_law_is_function
  refine cal_mk F T.f_law_is_function sc_law_is_function (F.bindsN fun _ _ _ _ _ _ us hl => match us, hl with | [_], _ => rfl) pure_.len fun cdv A outer s H vs Q E hr h => ?_
  refine ⟨t_law_is_function K w s_law_is_name s_law_is_body, PSs.nox ?_, pure_.run vs H Q E h⟩
  exact (pss_cons (ps_if (PW.pt (pw_or (pt_not (pt_tru (pe_callB call_isiG (by rfl) T.n_isinstance (by decide +kernel) (pa_cons (pv 0) (pa_cons (pe_bltn (v := .ty "tuple") rfl T.n_tuple (by decide +kernel) rfl) pa_nil))) (by intro _; rfl))) (pw_or (pt_cmpR (op_neG (hu2_of hr)) (pe_callB call_lenG (by rfl) T.n_len (by decide +kernel) (pa_cons (pv 0) pa_nil)) pe_int (nomark _)) (pw_or (pt_not (pt_tru (pe_cal c_law_is_name hr rfl (pa_cons (pe_ixG (hu_of hr) (pv 0) pe_int (fun _ _ => rfl)) pa_nil)) (by intro _; rfl))) (pw_or1 (pt_not (pt_tru (pe_cal c_law_is_body hr rfl (pa_cons (pe_ixG (hu_of hr) (pv 0) pe_int (fun _ _ => rfl)) pa_nil)) (by intro _; rfl)))))))) (pss_one (ps_ret pe_bl)) pss_nil)
  (pss_cons (ps_if (PW.pt (pw_or (pt_not (pt_tru (pe_callB call_isiG (by rfl) T.n_isinstance (by decide +kernel) (pa_cons (pe_ixG (hu_of hr) (pv 0) pe_int (fun _ _ => rfl)) (pa_cons (pe_bltn (v := .ty "tuple") rfl T.n_tuple (by decide +kernel) rfl) pa_nil))) (by intro _; rfl))) (pw_or1 (pt_cmpR op_gt (pe_callB call_lenG (by rfl) T.n_len (by decide +kernel) (pa_cons (pe_ixG (hu_of hr) (pv 0) pe_int (fun _ _ => rfl)) pa_nil)) pe_int (nomark _))))) (pss_one (ps_ret pe_bl)) pss_nil)
  (pss_one (ps_ret (pe_cmpR (op_eqG (hu2_of hr)) (pe_lc (own := [("_law_name_here", 1)]) (g := (gName 1)) (tt := (tNot (tTru K (tCall s_law_is_name [] E0 (tCons (tVar 1) tNil))))) rfl sc_law_is_function.nd (pi_seq (pe_ixG (hu_of hr) (pv 0) pe_int (fun _ _ => rfl))) (blkOk_by (by kernel_rfl)) (fun _ _ _ _ _ => (pg_name (i := 1) sc_law_is_function.nd rfl (by first | exact Or.inl rfl | exact Or.inr rfl))) (fun _ _ _ _ _ => (pts_one (pt_not (pt_tru (pe_cal c_law_is_name hr rfl (pa_cons (pv 1) pa_nil)) (by intro _; rfl))))) (fun _ _ _ _ _ => (pv 1))) (pe_lstN pa_nil) (nomark _))))))
abbrev st_law_lets : Stmt := topS 54
theorem sc_law_lets : FnScope ["_law_part", "_law_found", "_law_row", "_law_one"] ["_law_part"] (defScope st_law_lets) := ⟨rfl, rfl, rfl, by decide +kernel, rfl, by decide +kernel, by decide +kernel⟩
theorem mk_law_lets {P : Program} {w : World} {K : PySem.W.Frag} {mg : Str → Option Value} {base : Heap} (T : TX w K mg) {j : Nat} {sp : Sp} {s_law_inner s_law_lets : Sp} (c_law_inner : Cal P w K mg base j "_law_inner" s_law_inner) (c_law_lets : Cal P w K mg base j "_law_lets" s_law_lets)
    (pure_ : PureOk 1 sp (t_law_lets K w s_law_inner s_law_lets) 4) : Cal P w K mg base (j + 1) "_law_lets" sp := by
  obtain ⟨fd, F⟩ := T.d_law_lets
  refine cal_mk F T.f_law_lets sc_law_lets (F.bindsN fun _ _ _ _ _ _ us hl => match us, hl with | [_], _ => rfl) pure_.len fun cdv A outer s H vs Q E hr h => ?_
  refine ⟨t_law_lets K w s_law_inner s_law_lets, PSs.nox ?_, pure_.run vs H Q E h⟩
  exact (pss_cons (ps_set (i := 1) sc_law_lets.nd rfl (Or.inl rfl) (pe_lstN pa_nil))
  (pss_cons (ps_if (pt_cmpR (op_eqG (hu2_of hr)) (pe_ixG (hu_of hr) (pv 0) pe_int (fun _ _ => rfl)) pe_str (nomark _)) (pss_one (ps_setLc (i := 1) (own := [("_law_row", 2)]) (g := (gName 2)) (tt := tYes) rfl sc_law_lets.nd rfl rfl (sw_true rfl rfl rfl (by decide +kernel)) (pi_seq (pe_ixG (hu_of hr) (pv 0) pe_int (fun _ _ => rfl))) (blkOk_by (by kernel_rfl)) (fun _ _ _ _ _ => (pg_name (i := 2) sc_law_lets.nd rfl (by first | exact Or.inl rfl | exact Or.inr rfl))) (fun _ _ _ _ _ => pts_nil) (fun _ _ _ _ _ => (pe_ixG (hu_of hr) (pv 2) pe_int (fun _ _ => rfl))))) pss_nil)
  (pss_cons (ps_for PassesOwn.never rfl (pi_seq (pe_cal c_law_inner hr rfl (pa_cons (pv 0) pa_nil))) (pg_name (i := 3) sc_law_lets.nd rfl (by first | exact Or.inl rfl | exact Or.inr rfl)) (pss_one (ps_set (i := 1) sc_law_lets.nd rfl (Or.inl rfl) (pe_op op_addG (pv 1) (pe_cal c_law_lets hr rfl (pa_cons (pv 3) pa_nil))))))
  (pss_one (ps_ret (pv 1))))))
abbrev st_law_strange : Stmt := topS 55
theorem sc_law_strange : FnScope ["_law_part", "_law_known", "_law_functions", "_law_row", "_law_one", "_law_found"] ["_law_part", "_law_known", "_law_functions"] (defScope st_law_strange) := ⟨rfl, rfl, rfl, by decide +kernel, rfl, by decide +kernel, by decide +kernel⟩
theorem mk_law_strange {P : Program} {w : World} {K : PySem.W.Frag} {mg : Str → Option Value} {base : Heap} (T : TX w K mg) {j : Nat} {sp : Sp} {s_law_inner s_law_strange : Sp} (c_law_inner : Cal P w K mg base j "_law_inner" s_law_inner) (c_law_strange : Cal P w K mg base j "_law_strange" s_law_strange)
    (pure_ : PureOk 3 sp (t_law_strange K w s_law_inner s_law_strange) 6) : Cal P w K mg base (j + 1) "_law_strange" sp := by
  obtain ⟨fd, F⟩ := T.d_law_strange
  refine cal_mk F T.f_law_strange sc_law_strange (F.bindsN fun _ _ _ _ _ _ us hl => match us, hl with | [_, _, _], _ => rfl) pure_.len fun cdv A outer s H vs Q E hr h => ?_
  refine ⟨t_law_strange K w s_law_inner s_law_strange, PSs.nox ?_, pure_.run vs H Q E h⟩
  exact (pss_cons (ps_if (PW.pt (pw_or (PW.pt (pw_and (pt_cmpR (op_eqG (hu2_of hr)) (pe_ixG (hu_of hr) (pv 0) pe_int (fun _ _ => rfl)) pe_str (nomark _)) (pw_and1 (pt_cmpR (op_notInG (hu_of hr)) (pe_ixG (hu_of hr) (pv 0) pe_int (fun _ _ => rfl)) (pv 1) (by rfl))))) (pw_or1 (PW.pt (pw_and (pt_cmpR (op_eqG (hu2_of hr)) (pe_ixG (hu_of hr) (pv 0) pe_int (fun _ _ => rfl)) pe_str (nomark _)) (pw_and1 (pt_cmpR (op_notInG (hu_of hr)) (pe_ixG (hu_of hr) (pv 0) pe_int (fun _ _ => rfl)) (pv 2) (by rfl)))))))) (pss_one (ps_ret (pe_ixG (hu_of hr) (pv 0) pe_int (fun _ _ => rfl)))) pss_nil)
  (pss_cons (ps_if (pt_cmpR (op_eqG (hu2_of hr)) (pe_ixG (hu_of hr) (pv 0) pe_int (fun _ _ => rfl)) pe_str (nomark _)) (pss_one (ps_set (i := 1) sc_law_strange.nd rfl (Or.inl rfl) (pe_op op_addG (pv 1) (pe_lc (own := [("_law_row", 3)]) (g := (gName 3)) (tt := tYes) rfl sc_law_strange.nd (pi_seq (pe_ixG (hu_of hr) (pv 0) pe_int (fun _ _ => rfl))) (blkOk_by (by kernel_rfl)) (fun _ _ _ _ _ => (pg_name (i := 3) sc_law_strange.nd rfl (by first | exact Or.inl rfl | exact Or.inr rfl))) (fun _ _ _ _ _ => pts_nil) (fun _ _ _ _ _ => (pe_ixG (hu_of hr) (pv 3) pe_int (fun _ _ => rfl))))))) pss_nil)
  (pss_cons (ps_for PassesOwn.never rfl (pi_seq (pe_cal c_law_inner hr rfl (pa_cons (pv 0) pa_nil))) (pg_name (i := 4) sc_law_strange.nd rfl (by first | exact Or.inl rfl | exact Or.inr rfl)) (pss_cons (ps_set (i := 5) sc_law_strange.nd rfl (Or.inl rfl) (pe_cal c_law_strange hr rfl (pa_cons (pv 4) (pa_cons (pv 1) (pa_cons (pv 2) pa_nil)))))
  (pss_one (ps_if (pt_cmpR (op_neG (hu2_of hr)) (pv 5) pe_str (nomark _)) (pss_one (ps_ret (pv 5))) pss_nil))))
  (pss_one (ps_ret pe_str)))))
abbrev st_law_due : Stmt := topS 56
theorem sc_law_due : FnScope ["_law_thing", "_law_one", "_law_names", "_law_at", "_law_things", "_law_body", "_law_known", "_law_strange_here"] ["_law_thing"] (defScope st_law_due) := ⟨rfl, rfl, rfl, by decide +kernel, rfl, by decide +kernel, by decide +kernel⟩
theorem mk_law_due {P : Program} {w : World} {K : PySem.W.Frag} {mg : Str → Option Value} {base : Heap} (T : TX w K mg) {j : Nat} {sp : Sp} {s_law_is_function s_law_is_body s_law_lets s_law_strange : Sp} (c_law_is_function : Cal P w K mg base j "_law_is_function" s_law_is_function) (c_law_is_body : Cal P w K mg base j "_law_is_body" s_law_is_body) (c_law_lets : Cal P w K mg base j "_law_lets" s_law_lets) (c_law_strange : Cal P w K mg base j "_law_strange" s_law_strange)
    (pure_ : PureOk 1 sp (t_law_due K w s_law_is_function s_law_is_body s_law_lets s_law_strange) 8) : Cal P w K mg base (j + 1) "_law_due" sp := by
  obtain ⟨fd, F⟩ := T.d_law_due
  refine cal_mk F T.f_law_due sc_law_due (F.bindsN fun _ _ _ _ _ _ us hl => match us, hl with | [_], _ => rfl) pure_.len fun cdv A outer s H vs Q E hr h => ?_
  refine ⟨t_law_due K w s_law_is_function s_law_is_body s_law_lets s_law_strange, PSs.nox ?_, pure_.run vs H Q E h⟩
  exact (pss_cons (ps_if (PW.pt (pw_or (pt_not (pt_tru (pe_callB call_isiG (by rfl) T.n_isinstance (by decide +kernel) (pa_cons (pv 0) (pa_cons (pe_bltn (v := .ty "tuple") rfl T.n_tuple (by decide +kernel) rfl) pa_nil))) (by intro _; rfl))) (pw_or (pt_cmpR (op_neG (hu2_of hr)) (pe_callB call_lenG (by rfl) T.n_len (by decide +kernel) (pa_cons (pv 0) pa_nil)) pe_int (nomark _)) (pw_or (pt_not (pt_tru (pe_callB call_isiG (by rfl) T.n_isinstance (by decide +kernel) (pa_cons (pe_ixG (hu_of hr) (pv 0) pe_int (fun _ _ => rfl)) (pa_cons (pe_bltn (v := .ty "tuple") rfl T.n_tuple (by decide +kernel) rfl) pa_nil))) (by intro _; rfl))) (pw_or1 (pt_cmpR op_gt (pe_callB call_lenG (by rfl) T.n_len (by decide +kernel) (pa_cons (pe_ixG (hu_of hr) (pv 0) pe_int (fun _ _ => rfl)) pa_nil)) pe_int (nomark _))))))) (pss_one (ps_ret (pe_tupN (pa_cons pe_str (pa_cons pe_str pa_nil))))) pss_nil)
  (pss_cons (ps_if (PW.pt (pw_or (pt_cmpR (op_neG (hu2_of hr)) (pe_lc (own := [("_law_one", 1)]) (g := (gName 1)) (tt := (tNot (tTru K (tCall s_law_is_function [] E0 (tCons (tVar 1) tNil))))) rfl sc_law_due.nd (pi_seq (pe_ixG (hu_of hr) (pv 0) pe_int (fun _ _ => rfl))) (blkOk_by (by kernel_rfl)) (fun _ _ _ _ _ => (pg_name (i := 1) sc_law_due.nd rfl (by first | exact Or.inl rfl | exact Or.inr rfl))) (fun _ _ _ _ _ => (pts_one (pt_not (pt_tru (pe_cal c_law_is_function hr rfl (pa_cons (pv 1) pa_nil)) (by intro _; rfl))))) (fun _ _ _ _ _ => (pv 1))) (pe_lstN pa_nil) (nomark _)) (pw_or1 (pt_not (pt_tru (pe_cal c_law_is_body hr rfl (pa_cons (pe_ixG (hu_of hr) (pv 0) pe_int (fun _ _ => rfl)) pa_nil)) (by intro _; rfl)))))) (pss_one (ps_ret (pe_tupN (pa_cons pe_str (pa_cons pe_str pa_nil))))) pss_nil)
  (pss_cons (ps_setLc (i := 2) (own := [("_law_one", 1)]) (g := (gName 1)) (tt := tYes) rfl sc_law_due.nd rfl rfl (sw_true rfl rfl rfl (by decide +kernel)) (pi_seq (pe_ixG (hu_of hr) (pv 0) pe_int (fun _ _ => rfl))) (blkOk_by (by kernel_rfl)) (fun _ _ _ _ _ => (pg_name (i := 1) sc_law_due.nd rfl (by first | exact Or.inl rfl | exact Or.inr rfl))) (fun _ _ _ _ _ => pts_nil) (fun _ _ _ _ _ => (pe_ixG (hu_of hr) (pv 1) pe_int (fun _ _ => rfl))))
  (pss_cons (ps_for PassesOwn.never rfl (pi_range1 (by rfl) T.n_range (pa_cons (pe_callB call_lenG (by rfl) T.n_len (by decide +kernel) (pa_cons (pv 2) pa_nil)) pa_nil)) (pg_name (i := 3) sc_law_due.nd rfl (by first | exact Or.inl rfl | exact Or.inr rfl)) (pss_one (ps_if (pt_cmpR (op_inG (hu_of hr)) (pe_ixG (hu_of hr) (pv 2) (pv 3) (fun _ _ => rfl)) (pe_slice sl_any (pv 2) po_none (po_some (pv 3))) (by rfl)) (pss_one (ps_ret (pe_tupN (pa_cons pe_str (pa_cons (pe_ixG (hu_of hr) (pv 2) (pv 3) (fun _ _ => rfl)) pa_nil))))) pss_nil)))
  (pss_cons (ps_for PassesOwn.never rfl (pi_seq (pe_op op_addG (pe_lc (own := [("_law_one", 1)]) (g := (gName 1)) (tt := tYes) rfl sc_law_due.nd (pi_seq (pe_ixG (hu_of hr) (pv 0) pe_int (fun _ _ => rfl))) (blkOk_by (by kernel_rfl)) (fun _ _ _ _ _ => (pg_name (i := 1) sc_law_due.nd rfl (by first | exact Or.inl rfl | exact Or.inr rfl))) (fun _ _ _ _ _ => pts_nil) (fun _ _ _ _ _ => (pe_tupN (pa_cons (pe_ixG (hu_of hr) (pv 1) pe_int (fun _ _ => rfl)) (pa_cons (pe_ixG (hu_of hr) (pv 1) pe_int (fun _ _ => rfl)) pa_nil))))) (pe_lstN (pa_cons (pe_tupN (pa_cons (pe_tupN pa_nil) (pa_cons (pe_ixG (hu_of hr) (pv 0) pe_int (fun _ _ => rfl)) pa_nil))) pa_nil)))) (pg_tup rfl (pgs_cons (pg_name (i := 4) sc_law_due.nd rfl (by first | exact Or.inl rfl | exact Or.inr rfl)) (pgs_cons (pg_name (i := 5) sc_law_due.nd rfl (by first | exact Or.inl rfl | exact Or.inr rfl)) pgs_nil))) (pss_cons (ps_set (i := 6) sc_law_due.nd rfl (Or.inl rfl) (pe_op op_addG (pe_callTy (call_listG rfl) (by rfl) T.n_list (by decide +kernel) (pa_cons (pv 4) pa_nil)) (pe_cal c_law_lets hr rfl (pa_cons (pv 5) pa_nil))))
  (pss_cons (ps_for PassesOwn.never rfl (pi_range1 (by rfl) T.n_range (pa_cons (pe_callB call_lenG (by rfl) T.n_len (by decide +kernel) (pa_cons (pv 6) pa_nil)) pa_nil)) (pg_name (i := 3) sc_law_due.nd rfl (by first | exact Or.inl rfl | exact Or.inr rfl)) (pss_one (ps_if (pt_cmpR (op_inG (hu_of hr)) (pe_ixG (hu_of hr) (pv 6) (pv 3) (fun _ _ => rfl)) (pe_slice sl_any (pv 6) po_none (po_some (pv 3))) (by rfl)) (pss_one (ps_ret (pe_tupN (pa_cons pe_str (pa_cons (pe_ixG (hu_of hr) (pv 6) (pv 3) (fun _ _ => rfl)) pa_nil))))) pss_nil)))
  (pss_cons (ps_set (i := 7) sc_law_due.nd rfl (Or.inl rfl) (pe_cal c_law_strange hr rfl (pa_cons (pv 5) (pa_cons (pe_callTy (call_listG rfl) (by rfl) T.n_list (by decide +kernel) (pa_cons (pv 4) pa_nil)) (pa_cons (pv 2) pa_nil)))))
  (pss_one (ps_if (pt_cmpR (op_neG (hu2_of hr)) (pv 7) pe_str (nomark _)) (pss_one (ps_ret (pe_tupN (pa_cons pe_str (pa_cons (pv 7) pa_nil))))) pss_nil))))))
  (pss_one (ps_ret (pe_tupN (pa_cons pe_str (pa_cons pe_str pa_nil))))))))))
abbrev st_law_told : Stmt := topS 57
theorem sc_law_told : FnScope ["_law_thing", "_law_found", "_law_caught", "e", "_law_some"] ["_law_thing"] (defScope st_law_told) := ⟨rfl, rfl, rfl, by decide +kernel, rfl, by decide +kernel, by decide +kernel⟩
theorem mk_law_told {P : Program} {w : World} {K : PySem.W.Frag} {mg : Str → Option Value} {base : Heap} (T : TX w K mg) {j : Nat} {sp : Sp} {s_looked : Sp} (c_looked : CalX P w K mg base j "looked" s_looked)
    (pure_ : PureOk 1 sp (t_law_told K w s_looked) 5) : Cal P w K mg base (j + 1) "_law_told" sp := by
  obtain ⟨fd, F⟩ := T.d_law_told
  refine cal_mk F T.f_law_told sc_law_told (F.bindsN fun _ _ _ _ _ _ us hl => match us, hl with | [_], _ => rfl) pure_.len fun cdv A outer s H vs Q E hr h => ?_
  refine ⟨t_law_told K w s_looked, PSs.nox ?_, pure_.run vs H Q E h⟩
  exact (pss_cons (ps_set (i := 1) sc_law_told.nd rfl (Or.inl rfl) pe_non)
  (pss_cons (ps_set (i := 2) sc_law_told.nd rfl (Or.inl rfl) pe_non)
  (pss_cons (ps_try_keep rfl rfl rfl sc_law_told.nd rfl rfl ⟨by rfl, by decide, Or.inl T.g_LazyError⟩ (fun W pn xe tk po => (pss_one (ps_set (i := 1) sc_law_told.nd rfl (Or.inl rfl) (pe_calx c_looked hr (by rfl) tk (pa_cons (pv 0) pa_nil))))) (fun a oe cls d pn _ _ => (pss_one (ps_set (i := 2) sc_law_told.nd rfl (Or.inl rfl) (pv 3)))))
  (pss_cons (ps_if (pt_cmpR op_isG (pv 2) pe_non (nomark _)) (pss_one (ps_ret (pe_ifExp (pt_cmpR (op_eqG (hu2_of hr)) (pv 1) (pv 0) (nomark _)) (pe_tupN (pa_cons pe_str (pa_cons pe_str pa_nil))) (pe_tupN (pa_cons pe_str (pa_cons pe_str pa_nil)))))) pss_nil)
  (pss_cons (ps_set (i := 4) sc_law_told.nd rfl (Or.inl rfl) (pe_lstN (pa_cons (pe_callB call_isiX (by rfl) T.n_isinstance (by decide +kernel) (pa_cons (pv 2) (pa_cons (pe_glob (v := .ref (He.ga K "NoProgram")) rfl T.g_NoProgram rfl) pa_nil))) (pa_cons (pe_callB call_isiX (by rfl) T.n_isinstance (by decide +kernel) (pa_cons (pv 2) (pa_cons (pe_glob (v := .ref (He.ga K "Twice")) rfl T.g_Twice rfl) pa_nil))) (pa_cons (pe_callB call_isiX (by rfl) T.n_isinstance (by decide +kernel) (pa_cons (pv 2) (pa_cons (pe_glob (v := .ref (He.ga K "Hidden")) rfl T.g_Hidden rfl) pa_nil))) pa_nil)))))
  (pss_cons (ps_set (i := 4) sc_law_told.nd rfl (Or.inl rfl) (pe_op op_addG (pv 4) (pe_lstN (pa_cons (pe_callB call_isiX (by rfl) T.n_isinstance (by decide +kernel) (pa_cons (pv 2) (pa_cons (pe_glob (v := .ref (He.ga K "Stranger")) rfl T.g_Stranger rfl) pa_nil))) (pa_cons (pe_callB call_isiX (by rfl) T.n_isinstance (by decide +kernel) (pa_cons (pv 2) (pa_cons (pe_glob (v := .ref (He.ga K "More")) rfl T.g_More rfl) pa_nil))) (pa_cons (pe_callB call_isiX (by rfl) T.n_isinstance (by decide +kernel) (pa_cons (pv 2) (pa_cons (pe_glob (v := .ref (He.ga K "NoRows")) rfl T.g_NoRows rfl) pa_nil))) pa_nil))))))
  (pss_cons (ps_set (i := 4) sc_law_told.nd rfl (Or.inl rfl) (pe_op op_addG (pv 4) (pe_lstN (pa_cons (pe_callB call_isiX (by rfl) T.n_isinstance (by decide +kernel) (pa_cons (pv 2) (pa_cons (pe_glob (v := .ref (He.ga K "NoText")) rfl T.g_NoText rfl) pa_nil))) (pa_cons (pe_callB call_isiX (by rfl) T.n_isinstance (by decide +kernel) (pa_cons (pv 2) (pa_cons (pe_glob (v := .ref (He.ga K "NoRow")) rfl T.g_NoRow rfl) pa_nil))) pa_nil)))))
  (pss_cons (ps_if (PW.pt (pw_or (pt_cmpR (op_neG (hu2_of hr)) (pe_bm PySem.F.plainAttrs_list PySem.F.slot_list_count PySem.F.type_list_count mt_count (pv 4) (pa_cons pe_bl pa_nil)) pe_int (nomark _)) (pw_or (pt_not (pt_tru (pe_callB call_isiX (by rfl) T.n_isinstance (by decide +kernel) (pa_cons (pv 2) (pa_cons (pe_bltn (v := .ty "ValueError") rfl T.n_ValueError (by decide +kernel) rfl) pa_nil))) (by intro _; rfl))) (pw_or1 (pt_cmpR op_gt (pe_bm PySem.F.plainAttrs_list PySem.F.slot_list_index PySem.F.type_list_index mt_index (pv 4) (pa_cons pe_bl pa_nil)) pe_int (nomark _)))))) (pss_one (ps_ret (pe_tupN (pa_cons pe_str (pa_cons pe_str pa_nil))))) pss_nil)
  (pss_cons (ps_if (pt_tru (pe_ixG (hu_of hr) (pv 4) pe_int (fun _ _ => rfl)) (by intro _; rfl)) (pss_one (ps_ret (pe_tupN (pa_cons pe_str (pa_cons pe_str pa_nil))))) pss_nil)
  (pss_one (ps_ret (pe_tupN (pa_cons (pe_ixG (hu_of hr) (pe_lstN (pa_cons pe_str (pa_cons pe_str (pa_cons pe_str (pa_cons pe_str pa_nil))))) (pe_bm PySem.F.plainAttrs_list PySem.F.slot_list_index PySem.F.type_list_index mt_index (pv 4) (pa_cons pe_bl pa_nil)) (fun _ _ => rfl)) (pa_cons (pe_fldX (pv 2)) pa_nil))))))))))))))
abbrev st_law_name : Stmt := topS 58
theorem sc_law_name : FnScope ["_law_pen_here", "_law_left"] ["_law_pen_here", "_law_left"] (defScope st_law_name) := ⟨rfl, rfl, rfl, by decide +kernel, rfl, by decide +kernel, by decide +kernel⟩
theorem mk_law_name {P : Program} {w : World} {K : PySem.W.Frag} {mg : Str → Option Value} {base : Heap} (T : TX w K mg) {j : Nat} {sp : Sp} {s_law_draw : Sp} (c_law_draw : Cal P w K mg base j "_law_draw" s_law_draw)
    (pure_ : PureOk 2 sp (t_law_name K w s_law_draw) 2) : Cal P w K mg base (j + 1) "_law_name" sp := by
  obtain ⟨fd, F⟩ := T.d_law_name
  refine cal_mk F T.f_law_name sc_law_name (F.bindsN fun _ _ _ _ _ _ us hl => match us, hl with | [_, _], _ => rfl) pure_.len fun cdv A outer s H vs Q E hr h => ?_
  refine ⟨t_law_name K w s_law_draw, PSs.nox ?_, pure_.run vs H Q E h⟩
  exact (pss_cons (ps_if (PW.pt (pw_and (pt_cmpR (op_neG (hu2_of hr)) (pv 1) (pe_lstN pa_nil) (nomark _)) (pw_and1 (pt_cmpR op_gt (pe_cal c_law_draw hr rfl (pa_cons (pv 0) (pa_cons pe_int pa_nil))) pe_int (nomark _))))) (pss_one (ps_ret (pe_bm0 PySem.F.plainAttrs_list PySem.F.slot_list_pop PySem.F.type_list_pop mt_popG (pv 1)))) pss_nil)
  (pss_one (ps_ret (pe_ixG (hu_of hr) pe_str (pe_cal c_law_draw hr rfl (pa_cons (pv 0) (pa_cons pe_int pa_nil))) (fun _ _ => rfl)))))
abbrev st_law_lets_in : Stmt := topS 59
theorem sc_law_lets_in : FnScope ["_law_pen_here", "_law_deep", "_law_left", "_law_known", "_law_way", "_law_some", "_law_name_here", "_law_names", "_law_k", "_law_inner_here", "_law_rows"] ["_law_pen_here", "_law_deep", "_law_left", "_law_known"] (defScope st_law_lets_in) := ⟨rfl, rfl, rfl, by decide +kernel, rfl, by decide +kernel, by decide +kernel⟩
theorem mk_law_lets_in {P : Program} {w : World} {K : PySem.W.Frag} {mg : Str → Option Value} {base : Heap} (T : TX w K mg) {j : Nat} {sp : Sp} {s_law_draw s_law_lets_in s_law_name : Sp} (c_law_draw : Cal P w K mg base j "_law_draw" s_law_draw) (c_law_lets_in : Cal P w K mg base j "_law_lets_in" s_law_lets_in) (c_law_name : Cal P w K mg base j "_law_name" s_law_name)
    (pure_ : PureOk 4 sp (t_law_lets_in K w s_law_draw s_law_lets_in s_law_name) 11) : Cal P w K mg base (j + 1) "_law_lets_in" sp := by
  obtain ⟨fd, F⟩ := T.d_law_lets_in
  refine cal_mk F T.f_law_lets_in sc_law_lets_in (F.bindsN fun _ _ _ _ _ _ us hl => match us, hl with | [_, _, _, _], _ => rfl) pure_.len fun cdv A outer s H vs Q E hr h => ?_
  refine ⟨t_law_lets_in K w s_law_draw s_law_lets_in s_law_name, PSs.nox ?_, pure_.run vs H Q E h⟩
  exact (pss_cons (ps_set (i := 4) sc_law_lets_in.nd rfl (Or.inl rfl) (pe_cal c_law_draw hr rfl (pa_cons (pv 0) (pa_cons pe_int pa_nil))))
  (pss_cons (ps_if (PW.pt (pw_or (pt_cmpR (op_eqG (hu2_of hr)) (pv 1) pe_int (nomark _)) (pw_or1 (pt_cmpR (op_eqG (hu2_of hr)) (pv 4) pe_int (nomark _))))) (pss_cons (ps_set (i := 5) sc_law_lets_in.nd rfl (Or.inl rfl) (pe_op op_addG (pe_lc (own := [("_law_name_here", 6)]) (g := (gName 6)) (tt := tYes) rfl sc_law_lets_in.nd (pi_seq (pv 3)) (blkOk_by (by kernel_rfl)) (fun _ _ _ _ _ => (pg_name (i := 6) sc_law_lets_in.nd rfl (by first | exact Or.inl rfl | exact Or.inr rfl))) (fun _ _ _ _ _ => pts_nil) (fun _ _ _ _ _ => (pe_tupN (pa_cons pe_str (pa_cons (pv 6) pa_nil))))) (pe_lstN (pa_cons (pe_tupN (pa_cons pe_str (pa_cons pe_str pa_nil))) (pa_cons (pe_tupN (pa_cons pe_str (pa_cons pe_int pa_nil))) pa_nil)))))
  (pss_cons (ps_set (i := 5) sc_law_lets_in.nd rfl (Or.inl rfl) (pe_op op_addG (pv 5) (pe_lstN (pa_cons (pe_tupN (pa_cons pe_str (pa_cons (pe_ixG (hu_of hr) pe_str (pe_cal c_law_draw hr rfl (pa_cons (pv 0) (pa_cons pe_int pa_nil))) (fun _ _ => rfl)) pa_nil))) (pa_cons (pe_tupN (pa_cons pe_str (pa_cons (pe_ixG (hu_of hr) pe_str (pe_cal c_law_draw hr rfl (pa_cons (pv 0) (pa_cons pe_int pa_nil))) (fun _ _ => rfl)) pa_nil))) pa_nil)))))
  (pss_one (ps_ret (pe_ixG (hu_of hr) (pv 5) (pe_cal c_law_draw hr rfl (pa_cons (pv 0) (pa_cons (pe_callB call_lenG (by rfl) T.n_len (by decide +kernel) (pa_cons (pv 5) pa_nil)) pa_nil))) (fun _ _ => rfl)))))) pss_nil)
  (pss_cons (ps_if (pt_cmpR (op_eqG (hu2_of hr)) (pv 4) pe_int (nomark _)) (pss_one (ps_ret (pe_tupN (pa_cons pe_str (pa_cons (pe_cal c_law_lets_in hr rfl (pa_cons (pv 0) (pa_cons (pe_op op_sub (pv 1) pe_int) (pa_cons (pv 2) (pa_cons (pv 3) pa_nil))))) (pa_cons (pe_cal c_law_lets_in hr rfl (pa_cons (pv 0) (pa_cons pe_int (pa_cons (pv 2) (pa_cons (pv 3) pa_nil))))) pa_nil)))))) pss_nil)
  (pss_cons (ps_setLc (i := 7) (own := [("_law_k", 8)]) (g := (gName 8)) (tt := tYes) rfl sc_law_lets_in.nd rfl rfl (sw_true rfl rfl rfl (by decide +kernel)) (pi_range1 (by rfl) T.n_range (pa_cons (pe_op op_addG pe_int (pe_cal c_law_draw hr rfl (pa_cons (pv 0) (pa_cons pe_int pa_nil)))) pa_nil)) (blkOk_by (by kernel_rfl)) (fun _ _ _ _ _ => (pg_name (i := 8) sc_law_lets_in.nd rfl (by first | exact Or.inl rfl | exact Or.inr rfl))) (fun _ _ _ _ _ => pts_nil) (fun _ _ _ _ _ => (pe_cal c_law_name hr rfl (pa_cons (pv 0) (pa_cons (pv 2) pa_nil)))))
  (pss_cons (ps_set (i := 9) sc_law_lets_in.nd rfl (Or.inl rfl) (pe_ixG (hu_of hr) (pe_lstN (pa_cons (pe_op op_addG (pv 3) (pv 7)) (pa_cons (pv 3) pa_nil))) (pe_callTy call_int1 (by rfl) T.n_int (by decide +kernel) (pa_cons (pe_cmpR (op_eqG (hu2_of hr)) (pe_cal c_law_draw hr rfl (pa_cons (pv 0) (pa_cons pe_int pa_nil))) pe_int (nomark _)) pa_nil)) (fun _ _ => rfl)))
  (pss_cons (ps_set (i := 10) sc_law_lets_in.nd rfl (Or.inl rfl) (pe_lstN pa_nil))
  (pss_cons (ps_for PassesOwn.never rfl (pi_seq (pv 7)) (pg_name (i := 6) sc_law_lets_in.nd rfl (by first | exact Or.inl rfl | exact Or.inr rfl)) (pss_one (ps_expr (pe_bm PySem.F.plainAttrs_list PySem.F.slot_list_append PySem.F.type_list_append mt_appendG (pv 10) (pa_cons (pe_tupN (pa_cons (pv 6) (pa_cons (pe_cal c_law_lets_in hr rfl (pa_cons (pv 0) (pa_cons (pe_ixG (hu_of hr) (pe_lstN (pa_cons pe_int (pa_cons (pe_op op_sub (pv 1) pe_int) pa_nil))) (pe_callTy call_int1 (by rfl) T.n_int (by decide +kernel) (pa_cons (pe_cmpR (op_eqG (hu2_of hr)) (pe_cal c_law_draw hr rfl (pa_cons (pv 0) (pa_cons pe_int pa_nil))) pe_int (nomark _)) pa_nil)) (fun _ _ => rfl)) (pa_cons (pv 2) (pa_cons (pv 9) pa_nil))))) pa_nil))) pa_nil)))))
  (pss_one (ps_ret (pe_tupN (pa_cons pe_str (pa_cons (pe_callTy call_tupleG (by rfl) T.n_tuple (by decide +kernel) (pa_cons (pv 10) pa_nil)) (pa_cons (pe_cal c_law_lets_in hr rfl (pa_cons (pv 0) (pa_cons (pe_op op_sub (pv 1) pe_int) (pa_cons (pv 2) (pa_cons (pv 9) pa_nil))))) pa_nil)))))))))))))
abbrev st_law_body_of : Stmt := topS 60
theorem sc_law_body_of : FnScope ["_law_pen_here", "_law_names", "_law_left", "_law_name_here"] ["_law_pen_here", "_law_names"] (defScope st_law_body_of) := ⟨rfl, rfl, rfl, by decide +kernel, rfl, by decide +kernel, by decide +kernel⟩
theorem mk_law_body_of {P : Program} {w : World} {K : PySem.W.Frag} {mg : Str → Option Value} {base : Heap} (T : TX w K mg) {j : Nat} {sp : Sp} {s_law_draw s_law_lets_in : Sp} (c_law_draw : Cal P w K mg base j "_law_draw" s_law_draw) (c_law_lets_in : Cal P w K mg base j "_law_lets_in" s_law_lets_in)
    (pure_ : PureOk 2 sp (t_law_body_of K w s_law_draw s_law_lets_in) 4) : Cal P w K mg base (j + 1) "_law_body_of" sp := by
  obtain ⟨fd, F⟩ := T.d_law_body_of
  refine cal_mk F T.f_law_body_of sc_law_body_of (F.bindsN fun _ _ _ _ _ _ us hl => match us, hl with | [_, _], _ => rfl) pure_.len fun cdv A outer s H vs Q E hr h => ?_
  refine ⟨t_law_body_of K w s_law_draw s_law_lets_in, PSs.nox ?_, pure_.run vs H Q E h⟩
  exact (pss_cons (ps_set (i := 2) sc_law_body_of.nd rfl (Or.inl rfl) (pe_lstN pa_nil))
  (pss_cons (ps_if (pt_cmpR (op_eqG (hu2_of hr)) (pe_cal c_law_draw hr rfl (pa_cons (pv 0) (pa_cons pe_int pa_nil))) pe_int (nomark _)) (pss_one (ps_setLc (i := 2) (own := [("_law_name_here", 3)]) (g := (gName 3)) (tt := (tTest (tOp (rInG K w true) (tVar 3) (tVar 1)))) rfl sc_law_body_of.nd rfl rfl (sw_true rfl rfl rfl (by decide +kernel)) (pi_seq pe_str) (blkOk_by (by kernel_rfl)) (fun _ _ _ _ _ => (pg_name (i := 3) sc_law_body_of.nd rfl (by first | exact Or.inl rfl | exact Or.inr rfl))) (fun _ _ _ _ _ => (pts_one (pt_cmpR (op_notInG (hu_of hr)) (pv 3) (pv 1) (by rfl)))) (fun _ _ _ _ _ => (pv 3)))) pss_nil)
  (pss_one (ps_ret (pe_cal c_law_lets_in hr rfl (pa_cons (pv 0) (pa_cons (pe_op op_addG pe_int (pe_cal c_law_draw hr rfl (pa_cons (pv 0) (pa_cons pe_int pa_nil)))) (pa_cons (pv 2) (pa_cons (pe_callTy (call_listG rfl) (by rfl) T.n_list (by decide +kernel) (pa_cons (pv 1) pa_nil)) pa_nil)))))))))
abbrev st_law_named_program : Stmt := topS 61
theorem sc_law_named_program : FnScope ["_law_pen_here", "_law_functions", "_law_f", "_law_names"] ["_law_pen_here"] (defScope st_law_named_program) := ⟨rfl, rfl, rfl, by decide +kernel, rfl, by decide +kernel, by decide +kernel⟩
theorem mk_law_named_program {P : Program} {w : World} {K : PySem.W.Frag} {mg : Str → Option Value} {base : Heap} (T : TX w K mg) {j : Nat} {sp : Sp} {s_law_draw s_law_body_of : Sp} (c_law_draw : Cal P w K mg base j "_law_draw" s_law_draw) (c_law_body_of : Cal P w K mg base j "_law_body_of" s_law_body_of)
    (pure_ : PureOk 1 sp (t_law_named_program K w s_law_draw s_law_body_of) 4) : Cal P w K mg base (j + 1) "_law_named_program" sp := by
  obtain ⟨fd, F⟩ := T.d_law_named_program
  refine cal_mk F T.f_law_named_program sc_law_named_program (F.bindsN fun _ _ _ _ _ _ us hl => match us, hl with | [_], _ => rfl) pure_.len fun cdv A outer s H vs Q E hr h => ?_
  refine ⟨t_law_named_program K w s_law_draw s_law_body_of, PSs.nox ?_, pure_.run vs H Q E h⟩
  exact (pss_cons (ps_set (i := 1) sc_law_named_program.nd rfl (Or.inl rfl) (pe_lstN pa_nil))
  (pss_cons (ps_for PassesOwn.never rfl (pi_seq (pe_slice sl_any (pe_lstN (pa_cons pe_str (pa_cons pe_str pa_nil))) po_none (po_some (pe_op op_addG pe_int (pe_cal c_law_draw hr rfl (pa_cons (pv 0) (pa_cons pe_int pa_nil))))))) (pg_name (i := 2) sc_law_named_program.nd rfl (by first | exact Or.inl rfl | exact Or.inr rfl)) (pss_cons (ps_set (i := 3) sc_law_named_program.nd rfl (Or.inl rfl) (pe_slice sl_any (pe_tupN (pa_cons pe_str (pa_cons pe_str (pa_cons pe_str pa_nil)))) po_none (po_some (pe_cal c_law_draw hr rfl (pa_cons (pv 0) (pa_cons pe_int pa_nil))))))
  (pss_one (ps_expr (pe_bm PySem.F.plainAttrs_list PySem.F.slot_list_append PySem.F.type_list_append mt_appendG (pv 1) (pa_cons (pe_tupN (pa_cons (pv 2) (pa_cons (pv 3) (pa_cons (pe_cal c_law_body_of hr rfl (pa_cons (pv 0) (pa_cons (pv 3) pa_nil))) pa_nil)))) pa_nil))))))
  (pss_one (ps_ret (pe_tupN (pa_cons (pe_callTy call_tupleG (by rfl) T.n_tuple (by decide +kernel) (pa_cons (pv 1) pa_nil)) (pa_cons (pe_cal c_law_body_of hr rfl (pa_cons (pv 0) (pa_cons (pe_tupN pa_nil) pa_nil))) pa_nil)))))))
abbrev st_law_read_told : Stmt := topS 62
theorem sc_law_read_told : FnScope ["_law_thing", "_law_found", "_law_word", "e"] ["_law_thing"] (defScope st_law_read_told) := ⟨rfl, rfl, rfl, by decide +kernel, rfl, by decide +kernel, by decide +kernel⟩
theorem mk_law_read_told {P : Program} {w : World} {K : PySem.W.Frag} {mg : Str → Option Value} {base : Heap} (T : TX w K mg) {j : Nat} {sp : Sp} {s_read s_written : Sp} (c_read : CalX P w K mg base j "read" s_read) (c_written : Cal P w K mg base j "written" s_written)
    (pure_ : PureOk 1 sp (t_law_read_told K w s_read s_written) 4) : Cal P w K mg base (j + 1) "_law_read_told" sp := by
  obtain ⟨fd, F⟩ := T.d_law_read_told
  refine cal_mk F T.f_law_read_told sc_law_read_told (F.bindsN fun _ _ _ _ _ _ us hl => match us, hl with | [_], _ => rfl) pure_.len fun cdv A outer s H vs Q E hr h => ?_
  refine ⟨t_law_read_told K w s_read s_written, PSs.nox ?_, pure_.run vs H Q E h⟩
  exact (pss_cons (ps_set (i := 1) sc_law_read_told.nd rfl (Or.inl rfl) pe_non)
  (pss_cons (ps_set (i := 2) sc_law_read_told.nd rfl (Or.inl rfl) pe_str)
  (pss_cons (ps_try_manyN rfl rfl sc_law_read_told.nd (fun W pn xe tk po => (pss_one (ps_set (i := 1) sc_law_read_told.nd rfl (Or.inl rfl) (pe_calx c_read hr (by rfl) tk (pa_cons (pe_cal c_written hr (by rfl) (pa_cons (pv 0) pa_nil)) pa_nil))))) (HdsN.named ⟨by rfl, by decide, Or.inl T.g_Hidden⟩ rfl rfl (fun a oe cls d pn hz hf => (pss_one (ps_set (i := 2) sc_law_read_told.nd rfl (Or.inl rfl) (pe_tupN (pa_cons pe_str (pa_cons (pe_xf T.errs.xf_Hidden T.errs.nm_Hidden hz hf (pv 3)) pa_nil)))))) (HdsN.named ⟨by rfl, by decide, Or.inl T.g_Stranger⟩ rfl rfl (fun a oe cls d pn hz hf => (pss_one (ps_set (i := 2) sc_law_read_told.nd rfl (Or.inl rfl) (pe_tupN (pa_cons pe_str (pa_cons (pe_xf T.errs.xf_Stranger T.errs.nm_Stranger hz hf (pv 3)) pa_nil)))))) (HdsN.plain ⟨by rfl, by decide, Or.inl T.g_NoProgram⟩ (fun a oe cls d pn hz hf => (pss_one (ps_set (i := 2) sc_law_read_told.nd rfl (Or.inl rfl) (pe_tupN (pa_cons pe_str (pa_cons pe_str pa_nil)))))) HdsN.nil))))
  (pss_one (ps_ret (pe_ifExp (pt_cmpR op_isG (pv 1) pe_non (nomark _)) (pv 2) (pe_ixG (hu_of hr) (pe_lstN (pa_cons pe_str (pa_cons (pe_tupN (pa_cons pe_str (pa_cons pe_str pa_nil))) pa_nil))) (pe_callTy call_int1 (by rfl) T.n_int (by decide +kernel) (pa_cons (pe_cmpR (op_eqG (hu2_of hr)) (pv 1) (pv 0) (nomark _)) pa_nil)) (fun _ _ => rfl))))))))
abbrev st_law : Stmt := topS 63
theorem sc_law : FnScope ["_law_script", "_law_pen_here", "_law_turn", "_law_thing", "_law_due_here"] ["_law_script"] (defScope st_law) := ⟨rfl, rfl, rfl, by decide +kernel, rfl, by decide +kernel, by decide +kernel⟩
theorem mkl_law {P : Program} {w : World} {K : PySem.W.Frag} {mg : Str → Option Value} {base : Heap} {fd : FuncData} (F : FunD K "law" "law" (defArgs (topS 63)) (defBody (topS 63)) (defScope (topS 63)) [] [] (He.ga K "law") fd) (T : TX w K mg) {j : Nat} {sp : Sp} {s_law_pen s_law_named_program s_law_due s_law_told s_law_read_told : Sp} (c_law_pen : Cal P w K mg base j "_law_pen" s_law_pen) (c_law_named_program : Cal P w K mg base j "_law_named_program" s_law_named_program) (c_law_due : Cal P w K mg base j "_law_due" s_law_due) (c_law_told : Cal P w K mg base j "_law_told" s_law_told) (c_law_read_told : Cal P w K mg base j "_law_read_told" s_law_read_told)
    (pure_ : PureOk 1 sp (t_law K w s_law_pen s_law_named_program s_law_due s_law_told s_law_read_told) 5) : FnOk P w K mg base CX0 (j + 1) (He.ga K "law") fd ["_law_script"] sp := by
  refine F.ok sc_law pure_.len fun cdv A outer s H vs Q E hr h => ?_
  refine ⟨t_law K w s_law_pen s_law_named_program s_law_due s_law_told s_law_read_told, PSs.nox ?_, pure_.run vs H Q E h⟩
  exact (pss_cons (ps_set (i := 1) sc_law.nd rfl (Or.inl rfl) (pe_cal c_law_pen hr rfl (pa_cons (pv 0) pa_nil)))
  (pss_cons (ps_for PassesOwn.never rfl (pi_range1 (by rfl) T.n_range (pa_cons (pe_callB (call_max2 rfl) (by rfl) T.n_max (by decide +kernel) (pa_cons pe_int (pa_cons (pe_callB (call_min2 rfl) (by rfl) T.n_min (by decide +kernel) (pa_cons pe_int (pa_cons (pe_callB call_lenG (by rfl) T.n_len (by decide +kernel) (pa_cons (pv 0) pa_nil)) pa_nil))) pa_nil))) pa_nil)) (pg_name (i := 2) sc_law.nd rfl (by first | exact Or.inl rfl | exact Or.inr rfl)) (pss_cons (ps_set (i := 3) sc_law.nd rfl (Or.inl rfl) (pe_cal c_law_named_program hr rfl (pa_cons (pv 1) pa_nil)))
  (pss_cons (ps_set (i := 4) sc_law.nd rfl (Or.inl rfl) (pe_cal c_law_due hr rfl (pa_cons (pv 3) pa_nil)))
  (pss_cons (ps_if (pt_cmpR (op_neG (hu2_of hr)) (pe_cal c_law_told hr rfl (pa_cons (pv 3) pa_nil)) (pv 4) (nomark _)) (pss_one (ps_ret pe_bl)) pss_nil)
  (pss_one (ps_if (PW.pt (pw_and (pt_cmpR (op_neG (hu2_of hr)) (pe_ixG (hu_of hr) (pv 4) pe_int (fun _ _ => rfl)) pe_str (nomark _)) (pw_and1 (pt_cmpR (op_neG (hu2_of hr)) (pe_cal c_law_read_told hr rfl (pa_cons (pv 3) pa_nil)) (pv 4) (nomark _))))) (pss_one (ps_ret pe_bl)) pss_nil))))))
  (pss_one (ps_ret pe_bl))))
theorem nv_look_named {P : Program} {w : World} {K : PySem.W.Frag} {mg : Str → Option Value} {base : Heap} (T : TX w K mg) {sp : Sp} (no : ∀ vs H Q E, ¬ sp vs H Q E) : CalX P w K mg base 1 "look_named" sp := by
  obtain ⟨fd, F⟩ := T.d_look_named
  exact calx_mk F T.f_look_named sc_look_named (F.bindsN fun _ _ _ _ _ _ us hl => match us, hl with | [_, _, _], _ => rfl) (fun vs H Q E h => (no _ _ _ _ h).elim) fun cdv A outer s H vs Q E hr h => (no _ _ _ _ h).elim
theorem nv_law_lets {P : Program} {w : World} {K : PySem.W.Frag} {mg : Str → Option Value} {base : Heap} (T : TX w K mg) {sp : Sp} (no : ∀ vs H Q E, ¬ sp vs H Q E) : Cal P w K mg base 1 "_law_lets" sp := by
  obtain ⟨fd, F⟩ := T.d_law_lets
  exact cal_mk F T.f_law_lets sc_law_lets (F.bindsN fun _ _ _ _ _ _ us hl => match us, hl with | [_], _ => rfl) (fun vs H Q E h => (no _ _ _ _ h).elim) fun cdv A outer s H vs Q E hr h => (no _ _ _ _ h).elim
theorem nv_law_strange {P : Program} {w : World} {K : PySem.W.Frag} {mg : Str → Option Value} {base : Heap} (T : TX w K mg) {sp : Sp} (no : ∀ vs H Q E, ¬ sp vs H Q E) : Cal P w K mg base 1 "_law_strange" sp := by
  obtain ⟨fd, F⟩ := T.d_law_strange
  exact cal_mk F T.f_law_strange sc_law_strange (F.bindsN fun _ _ _ _ _ _ us hl => match us, hl with | [_, _, _], _ => rfl) (fun vs H Q E h => (no _ _ _ _ h).elim) fun cdv A outer s H vs Q E hr h => (no _ _ _ _ h).elim
theorem nv_law_lets_in {P : Program} {w : World} {K : PySem.W.Frag} {mg : Str → Option Value} {base : Heap} (T : TX w K mg) {sp : Sp} (no : ∀ vs H Q E, ¬ sp vs H Q E) : Cal P w K mg base 1 "_law_lets_in" sp := by
  obtain ⟨fd, F⟩ := T.d_law_lets_in
  exact cal_mk F T.f_law_lets_in sc_law_lets_in (F.bindsN fun _ _ _ _ _ _ us hl => match us, hl with | [_, _, _, _], _ => rfl) (fun vs H Q E h => (no _ _ _ _ h).elim) fun cdv A outer s H vs Q E hr h => (no _ _ _ _ h).elim
theorem nv_words_of {P : Program} {w : World} {K : PySem.W.Frag} {mg : Str → Option Value} {base : Heap} (T : TX w K mg) {sp : Sp} (no : ∀ vs H Q E, ¬ sp vs H Q E) : Cal P w K mg base 1 "words_of" sp := by
  obtain ⟨fd, F⟩ := T.d_words_of
  exact cal_mk F T.f_words_of sc_words_of (F.bindsN fun _ _ _ _ _ _ us hl => match us, hl with | [_], _ => rfl) (fun vs H Q E h => (no _ _ _ _ h).elim) fun cdv A outer s H vs Q E hr h => (no _ _ _ _ h).elim
theorem nv_PartReader_part {P : Program} {w : World} {K : PySem.W.Frag} {mg : Str → Option Value} {base : Heap} (T : TX w K mg) {sp : Sp} (no : ∀ vs H Q E, ¬ sp vs H Q E) : MCal P w K mg base 1 (He.ga K "PartReader") "part" sp := by
  obtain ⟨fd, F⟩ := T.d_PartReader_part
  exact mcal_mk F T.m_PartReader_part T.c_PartReader sc_PartReader_part (F.bindsN fun _ _ _ _ _ _ us hl => match us, hl with | [_, _], _ => rfl) (fun vs H Q E h => (no _ _ _ _ h).elim) fun cdv A outer s H vs Q E hr h => (no _ _ _ _ h).elim
/-! ### the head -/
def dd (x : Str) (i : Nat) : He.DefD := ⟨(x, none), x, x, defArgs (topS i), defBody (topS i), defScope (topS i), [], []⟩
def dm (c m q : Str) (i j : Nat) : He.DefD := ⟨(c, some m), m, q, defArgs (inClass (topS i) j), defBody (inClass (topS i) j), defScope (inClass (topS i) j), [], []⟩
def hfn : List He.DefD := [dm "Twice" "__init__" "Twice.__init__" 3 0, dm "Hidden" "__init__" "Hidden.__init__" 4 0, dm "Stranger" "__init__" "Stranger.__init__" 5 0, dd "is_name" 13, dd "is_whole" 14, dd "is_small" 15, dd "within" 16, dd "in_order" 17, dd "is_row" 24, dd "are_rows" 25, dd "parts_of" 26, dd "is_body" 27, dd "is_function" 28, dd "is_built" 29, dd "row_names" 30, dd "look_unlike" 31, dd "look_named" 32, dd "looked" 33, dd "is_figures" 36, dd "is_marked" 37, dm "PartReader" "__init__" "PartReader.__init__" 38 0, dm "PartReader" "refuse" "PartReader.refuse" 38 1, dm "PartReader" "now" "PartReader.now" 38 2, dm "PartReader" "mark" "PartReader.mark" 38 3, dm "PartReader" "begin" "PartReader.begin" 38 4, dm "PartReader" "let_rows" "PartReader.let_rows" 38 5, dm "PartReader" "part" "PartReader.part" 38 6, dm "PartReader" "whole" "PartReader.whole" 38 7, dd "read_part" 39, dd "read_function" 40, dd "read" 41, dd "words_of" 43, dd "part_text" 44, dd "function_text" 45, dd "written" 46, dd "_law_pen" 48, dd "_law_draw" 49, dd "_law_is_name" 50, dd "_law_inner" 51, dd "_law_is_body" 52, dd "_law_is_function" 53, dd "_law_lets" 54, dd "_law_strange" 55, dd "_law_due" 56, dd "_law_told" 57, dd "_law_name" 58, dd "_law_lets_in" 59, dd "_law_body_of" 60, dd "_law_named_program" 61, dd "_law_read_told" 62, dd "law" 63]
def hfa : List He.Fa := [.glo "is_name", .glo "is_whole", .glo "is_small", .glo "within", .glo "in_order", .glo "is_row", .glo "are_rows", .glo "parts_of", .glo "is_body", .glo "is_function", .glo "is_built", .glo "row_names", .glo "look_unlike", .glo "look_named", .glo "looked", .glo "is_figures", .glo "is_marked", .mkr "PartReader", .meth "PartReader" "refuse", .meth "PartReader" "now", .meth "PartReader" "mark", .meth "PartReader" "begin", .meth "PartReader" "let_rows", .meth "PartReader" "part", .meth "PartReader" "whole", .glo "read_part", .glo "read_function", .glo "read", .glo "words_of", .glo "part_text", .glo "function_text", .glo "written", .glo "_law_pen", .glo "_law_draw", .glo "_law_is_name", .glo "_law_inner", .glo "_law_is_body", .glo "_law_is_function", .glo "_law_lets", .glo "_law_strange", .glo "_law_due", .glo "_law_told", .glo "_law_name", .glo "_law_lets_in", .glo "_law_body_of", .glo "_law_named_program", .glo "_law_read_told", .glo "law", .glo "Twice", .glo "Hidden", .glo "Stranger", .glo "NoProgram", .glo "LazyError", .glo "NoRows", .glo "More", .glo "NoRow", .glo "NoText", .cls "PartReader", .glo "PartReader", .noat "PartReader" "row", .noat "PartReader" "words", .noat "PartReader" "at", .noat "PartReader" "left", .free "str", .free "isinstance", .free "len", .free "all", .free "int", .free "bool", .free "abs", .free "list", .free "tuple", .free "range", .free "enumerate", .free "max", .free "ValueError", .free "min", .str "LETTERS" "abcdefghijklmnopqrstuvwxyz", .glo "PARTS", .int "MOST_ROWS" 4, .int "DEEPEST" 12, .int "MOST_PARTS" 60, .int "MOST_NAMES" 4, .int "MOST_FUNCTIONS" 8, .str "FIGURES" "0123456789"]
def hts : List He.Tab := [((fun K => He.ga K "PARTS"), ["give", "plus", "less", "times", "below", "when", "pair", "left", "right"])]
def hex (K : PySem.W.Frag) : Bool := He.valsB K (He.ga K "PARTS") [("give", .int 2), ("plus", .int 2), ("less", .int 2), ("times", .int 2), ("below", .int 2), ("when", .int 3), ("pair", .int 2), ("left", .int 1), ("right", .int 1)] && errB K && errM K
abbrev hR : PySem.W.OpenRow := PySem.W.OpenLaw.row PySem.Challenge.rw_lazywebs_k07_names_that_stand_ahead
abbrev hk : PySem.W.Hook := He.hookX 5 hfa hfn hts [] hex
def ob (s : PySem.W.SharedT) : He.AlX := He.obsX 5 hfa hfn hts [] hex (HandSHeadRun.getT s)
theorem ob_eq (s : PySem.W.SharedT) : ob s = hk.obs s.abs := He.obsX_eq (HandSHeadRun.getT_eq s)
def loose0 : List Str := ["LazyError", "NoProgram", "Twice", "Hidden", "Stranger", "More", "NoRows", "NoText", "NoRow", "PARTS", "LETTERS", "is_name", "is_whole", "is_small", "within", "in_order", "MOST_FUNCTIONS", "MOST_NAMES", "MOST_ROWS", "MOST_PARTS", "DEEPEST", "is_row", "are_rows", "parts_of", "is_body", "is_function", "is_built", "row_names", "look_unlike", "look_named"]
def loose1 : List Str := ["looked", "FIGURES", "is_figures", "is_marked", "PartReader", "read_part", "read_function", "read", "words_of", "part_text", "function_text", "written", "_law_pen", "_law_draw", "_law_is_name", "_law_inner", "_law_is_body", "_law_is_function", "_law_lets", "_law_strange", "_law_due", "_law_told", "_law_name", "_law_lets_in", "_law_body_of", "_law_named_program", "_law_read_told"]
def hloose : List Str := loose0 ++ loose1
theorem hrunF (w : World) : HandSHeadRun.RunEq hR (PySem.W.view hR.prog [63]) hk ob 6000 hloose (w.withFollow "special-get-raises" false) := by
  intro os
  kernel_rfl
theorem hrunT (w : World) : HandSHeadRun.RunEq hR (PySem.W.view hR.prog [63]) hk ob 6000 hloose (w.withFollow "special-get-raises" true) := by
  intro os
  kernel_rfl
theorem hrun (w : World) : HandSHeadRun.RunEq hR (PySem.W.view hR.prog [63]) hk ob 6000 hloose w :=
  PySem.W.byRow2 "special-get-raises" (P := fun w => HandSHeadRun.RunEq hR (PySem.W.view hR.prog [63]) hk ob 6000 hloose w) hrunF hrunT w
theorem tx_mk {w : World} {K : PySem.W.Frag} {h h2 : Heap} {mg : Str → Option Value} (X : K.In h) (G : h.Ns mainGlobals mg) (c : He.SaysX hfa hfn hts [] hex w h2 K) : TX w K mg := by
  have hm := c.more
  unfold hex at hm
  simp only [Bool.and_eq_true] at hm
  exact {
    d_Twice___init__ := c.t.d.def_ 0 rfl
    d_Hidden___init__ := c.t.d.def_ 1 rfl
    d_Stranger___init__ := c.t.d.def_ 2 rfl
    d_is_name := c.t.d.def_ 3 rfl
    f_is_name := He.glo_ok X G (c.t.d.fact 0 (f := .glo "is_name") rfl)
    d_is_whole := c.t.d.def_ 4 rfl
    f_is_whole := He.glo_ok X G (c.t.d.fact 1 (f := .glo "is_whole") rfl)
    d_is_small := c.t.d.def_ 5 rfl
    f_is_small := He.glo_ok X G (c.t.d.fact 2 (f := .glo "is_small") rfl)
    d_within := c.t.d.def_ 6 rfl
    f_within := He.glo_ok X G (c.t.d.fact 3 (f := .glo "within") rfl)
    d_in_order := c.t.d.def_ 7 rfl
    f_in_order := He.glo_ok X G (c.t.d.fact 4 (f := .glo "in_order") rfl)
    d_is_row := c.t.d.def_ 8 rfl
    f_is_row := He.glo_ok X G (c.t.d.fact 5 (f := .glo "is_row") rfl)
    d_are_rows := c.t.d.def_ 9 rfl
    f_are_rows := He.glo_ok X G (c.t.d.fact 6 (f := .glo "are_rows") rfl)
    d_parts_of := c.t.d.def_ 10 rfl
    f_parts_of := He.glo_ok X G (c.t.d.fact 7 (f := .glo "parts_of") rfl)
    d_is_body := c.t.d.def_ 11 rfl
    f_is_body := He.glo_ok X G (c.t.d.fact 8 (f := .glo "is_body") rfl)
    d_is_function := c.t.d.def_ 12 rfl
    f_is_function := He.glo_ok X G (c.t.d.fact 9 (f := .glo "is_function") rfl)
    d_is_built := c.t.d.def_ 13 rfl
    f_is_built := He.glo_ok X G (c.t.d.fact 10 (f := .glo "is_built") rfl)
    d_row_names := c.t.d.def_ 14 rfl
    f_row_names := He.glo_ok X G (c.t.d.fact 11 (f := .glo "row_names") rfl)
    d_look_unlike := c.t.d.def_ 15 rfl
    f_look_unlike := He.glo_ok X G (c.t.d.fact 12 (f := .glo "look_unlike") rfl)
    d_look_named := c.t.d.def_ 16 rfl
    f_look_named := He.glo_ok X G (c.t.d.fact 13 (f := .glo "look_named") rfl)
    d_looked := c.t.d.def_ 17 rfl
    f_looked := He.glo_ok X G (c.t.d.fact 14 (f := .glo "looked") rfl)
    d_is_figures := c.t.d.def_ 18 rfl
    f_is_figures := He.glo_ok X G (c.t.d.fact 15 (f := .glo "is_figures") rfl)
    d_is_marked := c.t.d.def_ 19 rfl
    f_is_marked := He.glo_ok X G (c.t.d.fact 16 (f := .glo "is_marked") rfl)
    d_PartReader___init__ := c.t.d.def_ 20 rfl
    i_PartReader := He.mkr_ok (c.t.d.fact 17 (f := .mkr "PartReader") rfl)
    d_PartReader_refuse := c.t.d.def_ 21 rfl
    m_PartReader_refuse := He.meth_ok (c.t.d.fact 18 (f := .meth "PartReader" "refuse") rfl)
    d_PartReader_now := c.t.d.def_ 22 rfl
    m_PartReader_now := He.meth_ok (c.t.d.fact 19 (f := .meth "PartReader" "now") rfl)
    d_PartReader_mark := c.t.d.def_ 23 rfl
    m_PartReader_mark := He.meth_ok (c.t.d.fact 20 (f := .meth "PartReader" "mark") rfl)
    d_PartReader_begin := c.t.d.def_ 24 rfl
    m_PartReader_begin := He.meth_ok (c.t.d.fact 21 (f := .meth "PartReader" "begin") rfl)
    d_PartReader_let_rows := c.t.d.def_ 25 rfl
    m_PartReader_let_rows := He.meth_ok (c.t.d.fact 22 (f := .meth "PartReader" "let_rows") rfl)
    d_PartReader_part := c.t.d.def_ 26 rfl
    m_PartReader_part := He.meth_ok (c.t.d.fact 23 (f := .meth "PartReader" "part") rfl)
    d_PartReader_whole := c.t.d.def_ 27 rfl
    m_PartReader_whole := He.meth_ok (c.t.d.fact 24 (f := .meth "PartReader" "whole") rfl)
    d_read_part := c.t.d.def_ 28 rfl
    f_read_part := He.glo_ok X G (c.t.d.fact 25 (f := .glo "read_part") rfl)
    d_read_function := c.t.d.def_ 29 rfl
    f_read_function := He.glo_ok X G (c.t.d.fact 26 (f := .glo "read_function") rfl)
    d_read := c.t.d.def_ 30 rfl
    f_read := He.glo_ok X G (c.t.d.fact 27 (f := .glo "read") rfl)
    d_words_of := c.t.d.def_ 31 rfl
    f_words_of := He.glo_ok X G (c.t.d.fact 28 (f := .glo "words_of") rfl)
    d_part_text := c.t.d.def_ 32 rfl
    f_part_text := He.glo_ok X G (c.t.d.fact 29 (f := .glo "part_text") rfl)
    d_function_text := c.t.d.def_ 33 rfl
    f_function_text := He.glo_ok X G (c.t.d.fact 30 (f := .glo "function_text") rfl)
    d_written := c.t.d.def_ 34 rfl
    f_written := He.glo_ok X G (c.t.d.fact 31 (f := .glo "written") rfl)
    d_law_pen := c.t.d.def_ 35 rfl
    f_law_pen := He.glo_ok X G (c.t.d.fact 32 (f := .glo "_law_pen") rfl)
    d_law_draw := c.t.d.def_ 36 rfl
    f_law_draw := He.glo_ok X G (c.t.d.fact 33 (f := .glo "_law_draw") rfl)
    d_law_is_name := c.t.d.def_ 37 rfl
    f_law_is_name := He.glo_ok X G (c.t.d.fact 34 (f := .glo "_law_is_name") rfl)
    d_law_inner := c.t.d.def_ 38 rfl
    f_law_inner := He.glo_ok X G (c.t.d.fact 35 (f := .glo "_law_inner") rfl)
    d_law_is_body := c.t.d.def_ 39 rfl
    f_law_is_body := He.glo_ok X G (c.t.d.fact 36 (f := .glo "_law_is_body") rfl)
    d_law_is_function := c.t.d.def_ 40 rfl
    f_law_is_function := He.glo_ok X G (c.t.d.fact 37 (f := .glo "_law_is_function") rfl)
    d_law_lets := c.t.d.def_ 41 rfl
    f_law_lets := He.glo_ok X G (c.t.d.fact 38 (f := .glo "_law_lets") rfl)
    d_law_strange := c.t.d.def_ 42 rfl
    f_law_strange := He.glo_ok X G (c.t.d.fact 39 (f := .glo "_law_strange") rfl)
    d_law_due := c.t.d.def_ 43 rfl
    f_law_due := He.glo_ok X G (c.t.d.fact 40 (f := .glo "_law_due") rfl)
    d_law_told := c.t.d.def_ 44 rfl
    f_law_told := He.glo_ok X G (c.t.d.fact 41 (f := .glo "_law_told") rfl)
    d_law_name := c.t.d.def_ 45 rfl
    f_law_name := He.glo_ok X G (c.t.d.fact 42 (f := .glo "_law_name") rfl)
    d_law_lets_in := c.t.d.def_ 46 rfl
    f_law_lets_in := He.glo_ok X G (c.t.d.fact 43 (f := .glo "_law_lets_in") rfl)
    d_law_body_of := c.t.d.def_ 47 rfl
    f_law_body_of := He.glo_ok X G (c.t.d.fact 44 (f := .glo "_law_body_of") rfl)
    d_law_named_program := c.t.d.def_ 48 rfl
    f_law_named_program := He.glo_ok X G (c.t.d.fact 45 (f := .glo "_law_named_program") rfl)
    d_law_read_told := c.t.d.def_ 49 rfl
    f_law_read_told := He.glo_ok X G (c.t.d.fact 46 (f := .glo "_law_read_told") rfl)
    d_law := c.t.d.def_ 50 rfl
    f_law := He.glo_ok X G (c.t.d.fact 47 (f := .glo "law") rfl)
    g_Twice := He.glo_ok X G (c.t.d.fact 48 (f := .glo "Twice") rfl)
    g_Hidden := He.glo_ok X G (c.t.d.fact 49 (f := .glo "Hidden") rfl)
    g_Stranger := He.glo_ok X G (c.t.d.fact 50 (f := .glo "Stranger") rfl)
    g_NoProgram := He.glo_ok X G (c.t.d.fact 51 (f := .glo "NoProgram") rfl)
    g_LazyError := He.glo_ok X G (c.t.d.fact 52 (f := .glo "LazyError") rfl)
    g_NoRows := He.glo_ok X G (c.t.d.fact 53 (f := .glo "NoRows") rfl)
    g_More := He.glo_ok X G (c.t.d.fact 54 (f := .glo "More") rfl)
    g_NoRow := He.glo_ok X G (c.t.d.fact 55 (f := .glo "NoRow") rfl)
    g_NoText := He.glo_ok X G (c.t.d.fact 56 (f := .glo "NoText") rfl)
    c_PartReader := He.cls_ok (c.t.d.fact 57 (f := .cls "PartReader") rfl)
    g_PartReader := He.glo_ok X G (c.t.d.fact 58 (f := .glo "PartReader") rfl)
    a_PartReader_row := He.noat_ok (c.t.d.fact 59 (f := .noat "PartReader" "row") rfl)
    a_PartReader_words := He.noat_ok (c.t.d.fact 60 (f := .noat "PartReader" "words") rfl)
    a_PartReader_at := He.noat_ok (c.t.d.fact 61 (f := .noat "PartReader" "at") rfl)
    a_PartReader_left := He.noat_ok (c.t.d.fact 62 (f := .noat "PartReader" "left") rfl)
    n_str := He.free_ok X G (c.t.d.fact 63 (f := .free "str") rfl)
    n_isinstance := He.free_ok X G (c.t.d.fact 64 (f := .free "isinstance") rfl)
    n_len := He.free_ok X G (c.t.d.fact 65 (f := .free "len") rfl)
    n_all := He.free_ok X G (c.t.d.fact 66 (f := .free "all") rfl)
    n_int := He.free_ok X G (c.t.d.fact 67 (f := .free "int") rfl)
    n_bool := He.free_ok X G (c.t.d.fact 68 (f := .free "bool") rfl)
    n_abs := He.free_ok X G (c.t.d.fact 69 (f := .free "abs") rfl)
    n_list := He.free_ok X G (c.t.d.fact 70 (f := .free "list") rfl)
    n_tuple := He.free_ok X G (c.t.d.fact 71 (f := .free "tuple") rfl)
    n_range := He.free_ok X G (c.t.d.fact 72 (f := .free "range") rfl)
    n_enumerate := He.free_ok X G (c.t.d.fact 73 (f := .free "enumerate") rfl)
    n_max := He.free_ok X G (c.t.d.fact 74 (f := .free "max") rfl)
    n_ValueError := He.free_ok X G (c.t.d.fact 75 (f := .free "ValueError") rfl)
    n_min := He.free_ok X G (c.t.d.fact 76 (f := .free "min") rfl)
    errs := hm.1.2
    errm := errM_ok hm.2
    v_LETTERS := (He.str_ok X G (c.t.d.fact 77 (f := .str "LETTERS" "abcdefghijklmnopqrstuvwxyz") rfl)).elim fun t e => ⟨_, e, t, rfl⟩
    g_PARTS := He.glo_ok X G (c.t.d.fact 78 (f := .glo "PARTS") rfl)
    k_PARTS := ktab_of (kvs := [("give", .int 2), ("plus", .int 2), ("less", .int 2), ("times", .int 2), ("below", .int 2), ("when", .int 3), ("pair", .int 2), ("left", .int 1), ("right", .int 1)]) (tab_at c.t 0 rfl) hm.1.1
    v_MOST_ROWS := (He.int_ok X G (c.t.d.fact 79 (f := .int "MOST_ROWS" 4) rfl)).elim fun t e => ⟨_, e, t, rfl⟩
    v_DEEPEST := (He.int_ok X G (c.t.d.fact 80 (f := .int "DEEPEST" 12) rfl)).elim fun t e => ⟨_, e, t, rfl⟩
    v_MOST_PARTS := (He.int_ok X G (c.t.d.fact 81 (f := .int "MOST_PARTS" 60) rfl)).elim fun t e => ⟨_, e, t, rfl⟩
    v_MOST_NAMES := (He.int_ok X G (c.t.d.fact 82 (f := .int "MOST_NAMES" 4) rfl)).elim fun t e => ⟨_, e, t, rfl⟩
    v_MOST_FUNCTIONS := (He.int_ok X G (c.t.d.fact 83 (f := .int "MOST_FUNCTIONS" 8) rfl)).elim fun t e => ⟨_, e, t, rfl⟩
    v_FIGURES := (He.str_ok X G (c.t.d.fact 84 (f := .str "FIGURES" "0123456789") rfl)).elim fun t e => ⟨_, e, t, rfl⟩
  }
section
variable {P : Program} {w : World} {K : PySem.W.Frag} {mg : Str → Option Value} {base : Heap}
theorem law_ok (T : TX w K mg) {fd : FuncData} (F : FunD K "law" "law" (defArgs (topS 63)) (defBody (topS 63)) (defScope (topS 63)) [] [] (He.ga K "law") fd) : FnOk P w K mg base CX0 33 (He.ga K "law") fd ["_law_script"] (spLaw K) := by
  have c_law_pen : Cal P w K mg base 1 "_law_pen" (spPen K) := mk_law_pen (j := 0) T  (pure_pen)
  have c_law_draw : Cal P w K mg base 1 "_law_draw" (spDraw) := mk_law_draw (j := 0) T  (pure_draw)
  have c_law_name : Cal P w K mg base 2 "_law_name" (spName7) := mk_law_name (j := 1) T (c_law_draw.mono (by decide)) (pure_name7)
  have c_law_lets_in_0 : Cal P w K mg base 1 "_law_lets_in" (spLetsIn 0) := nv_law_lets_in T (fun vs H Q E ⟨_, _, _, _, _, _, _, _, _, _, _, h, _⟩ => absurd h (Nat.not_lt_zero _))
  have c_law_lets_in_1 : Cal P w K mg base 3 "_law_lets_in" (spLetsIn 1) := mk_law_lets_in (j := 2) T (c_law_draw.mono (by decide)) (c_law_lets_in_0.mono (by decide)) (c_law_name.mono (by decide)) (pure_letsin)
  have c_law_lets_in_2 : Cal P w K mg base 4 "_law_lets_in" (spLetsIn 2) := mk_law_lets_in (j := 3) T (c_law_draw.mono (by decide)) (c_law_lets_in_1.mono (by decide)) (c_law_name.mono (by decide)) (pure_letsin)
  have c_law_lets_in_3 : Cal P w K mg base 5 "_law_lets_in" (spLetsIn 3) := mk_law_lets_in (j := 4) T (c_law_draw.mono (by decide)) (c_law_lets_in_2.mono (by decide)) (c_law_name.mono (by decide)) (pure_letsin)
  have c_law_lets_in_4 : Cal P w K mg base 6 "_law_lets_in" (spLetsIn 4) := mk_law_lets_in (j := 5) T (c_law_draw.mono (by decide)) (c_law_lets_in_3.mono (by decide)) (c_law_name.mono (by decide)) (pure_letsin)
  have c_law_lets_in_5 : Cal P w K mg base 7 "_law_lets_in" (spLetsIn 5) := mk_law_lets_in (j := 6) T (c_law_draw.mono (by decide)) (c_law_lets_in_4.mono (by decide)) (c_law_name.mono (by decide)) (pure_letsin)
  have c_law_lets_in := c_law_lets_in_5
  have c_law_body_of : Cal P w K mg base 8 "_law_body_of" (spBodyOf7) := mk_law_body_of (j := 7) T (c_law_draw.mono (by decide)) (c_law_lets_in.mono (by decide)) (pure_bodyof7)
  have c_law_named_program : Cal P w K mg base 9 "_law_named_program" (spNamedProg) := mk_law_named_program (j := 8) T (c_law_draw.mono (by decide)) (c_law_body_of.mono (by decide)) (pure_namedprog)
  have c_law_is_name : Cal P w K mg base 1 "_law_is_name" (spIsNameX) := mk_law_is_name (j := 0) T  (pure_lnameX)
  have c_law_inner : Cal P w K mg base 2 "_law_inner" (spPartsOfX) := mk_law_inner (j := 1) T (c_law_is_name.mono (by decide)) (pure_linnerX)
  have c_law_is_body : Cal P w K mg base 3 "_law_is_body" (spIsBodyX) := mk_law_is_body (j := 2) T (c_law_inner.mono (by decide)) (pure_lisbodyX)
  have c_law_is_function : Cal P w K mg base 4 "_law_is_function" (spIsFunctionX) := mk_law_is_function (j := 3) T (c_law_is_name.mono (by decide)) (c_law_is_body.mono (by decide)) (pure_lisfunctionX)
  have c_law_lets_0 : Cal P w K mg base 1 "_law_lets" (spLets 0) := nv_law_lets T (fun vs H Q E ⟨_, p, _, _, _, h, _⟩ => by have := p.mxd_kids; omega)
  have c_law_lets_1 : Cal P w K mg base 3 "_law_lets" (spLets 1) := mk_law_lets (j := 2) T (c_law_inner.mono (by decide)) (c_law_lets_0.mono (by decide)) (pure_lets)
  have c_law_lets_2 : Cal P w K mg base 4 "_law_lets" (spLets 2) := mk_law_lets (j := 3) T (c_law_inner.mono (by decide)) (c_law_lets_1.mono (by decide)) (pure_lets)
  have c_law_lets_3 : Cal P w K mg base 5 "_law_lets" (spLets 3) := mk_law_lets (j := 4) T (c_law_inner.mono (by decide)) (c_law_lets_2.mono (by decide)) (pure_lets)
  have c_law_lets_4 : Cal P w K mg base 6 "_law_lets" (spLets 4) := mk_law_lets (j := 5) T (c_law_inner.mono (by decide)) (c_law_lets_3.mono (by decide)) (pure_lets)
  have c_law_lets_5 : Cal P w K mg base 7 "_law_lets" (spLets 5) := mk_law_lets (j := 6) T (c_law_inner.mono (by decide)) (c_law_lets_4.mono (by decide)) (pure_lets)
  have c_law_lets_6 : Cal P w K mg base 8 "_law_lets" (spLets 6) := mk_law_lets (j := 7) T (c_law_inner.mono (by decide)) (c_law_lets_5.mono (by decide)) (pure_lets)
  have c_law_lets_7 : Cal P w K mg base 9 "_law_lets" (spLets 7) := mk_law_lets (j := 8) T (c_law_inner.mono (by decide)) (c_law_lets_6.mono (by decide)) (pure_lets)
  have c_law_lets_8 : Cal P w K mg base 10 "_law_lets" (spLets 8) := mk_law_lets (j := 9) T (c_law_inner.mono (by decide)) (c_law_lets_7.mono (by decide)) (pure_lets)
  have c_law_lets_9 : Cal P w K mg base 11 "_law_lets" (spLets 9) := mk_law_lets (j := 10) T (c_law_inner.mono (by decide)) (c_law_lets_8.mono (by decide)) (pure_lets)
  have c_law_lets_10 : Cal P w K mg base 12 "_law_lets" (spLets 10) := mk_law_lets (j := 11) T (c_law_inner.mono (by decide)) (c_law_lets_9.mono (by decide)) (pure_lets)
  have c_law_lets_11 : Cal P w K mg base 13 "_law_lets" (spLets 11) := mk_law_lets (j := 12) T (c_law_inner.mono (by decide)) (c_law_lets_10.mono (by decide)) (pure_lets)
  have c_law_lets_12 : Cal P w K mg base 14 "_law_lets" (spLets 12) := mk_law_lets (j := 13) T (c_law_inner.mono (by decide)) (c_law_lets_11.mono (by decide)) (pure_lets)
  have c_law_lets := c_law_lets_12
  have c_law_strange_0 : Cal P w K mg base 1 "_law_strange" (spStrange 0) := nv_law_strange T (fun vs H Q E ⟨_, _, _, p, _, _, _, _, _, h, _⟩ => by have := p.mxd_kids; omega)
  have c_law_strange_1 : Cal P w K mg base 3 "_law_strange" (spStrange 1) := mk_law_strange (j := 2) T (c_law_inner.mono (by decide)) (c_law_strange_0.mono (by decide)) (pure_strange)
  have c_law_strange_2 : Cal P w K mg base 4 "_law_strange" (spStrange 2) := mk_law_strange (j := 3) T (c_law_inner.mono (by decide)) (c_law_strange_1.mono (by decide)) (pure_strange)
  have c_law_strange_3 : Cal P w K mg base 5 "_law_strange" (spStrange 3) := mk_law_strange (j := 4) T (c_law_inner.mono (by decide)) (c_law_strange_2.mono (by decide)) (pure_strange)
  have c_law_strange_4 : Cal P w K mg base 6 "_law_strange" (spStrange 4) := mk_law_strange (j := 5) T (c_law_inner.mono (by decide)) (c_law_strange_3.mono (by decide)) (pure_strange)
  have c_law_strange_5 : Cal P w K mg base 7 "_law_strange" (spStrange 5) := mk_law_strange (j := 6) T (c_law_inner.mono (by decide)) (c_law_strange_4.mono (by decide)) (pure_strange)
  have c_law_strange_6 : Cal P w K mg base 8 "_law_strange" (spStrange 6) := mk_law_strange (j := 7) T (c_law_inner.mono (by decide)) (c_law_strange_5.mono (by decide)) (pure_strange)
  have c_law_strange_7 : Cal P w K mg base 9 "_law_strange" (spStrange 7) := mk_law_strange (j := 8) T (c_law_inner.mono (by decide)) (c_law_strange_6.mono (by decide)) (pure_strange)
  have c_law_strange_8 : Cal P w K mg base 10 "_law_strange" (spStrange 8) := mk_law_strange (j := 9) T (c_law_inner.mono (by decide)) (c_law_strange_7.mono (by decide)) (pure_strange)
  have c_law_strange_9 : Cal P w K mg base 11 "_law_strange" (spStrange 9) := mk_law_strange (j := 10) T (c_law_inner.mono (by decide)) (c_law_strange_8.mono (by decide)) (pure_strange)
  have c_law_strange_10 : Cal P w K mg base 12 "_law_strange" (spStrange 10) := mk_law_strange (j := 11) T (c_law_inner.mono (by decide)) (c_law_strange_9.mono (by decide)) (pure_strange)
  have c_law_strange_11 : Cal P w K mg base 13 "_law_strange" (spStrange 11) := mk_law_strange (j := 12) T (c_law_inner.mono (by decide)) (c_law_strange_10.mono (by decide)) (pure_strange)
  have c_law_strange_12 : Cal P w K mg base 14 "_law_strange" (spStrange 12) := mk_law_strange (j := 13) T (c_law_inner.mono (by decide)) (c_law_strange_11.mono (by decide)) (pure_strange)
  have c_law_strange := c_law_strange_12
  have c_law_due : Cal P w K mg base 15 "_law_due" (spToldX) := mk_law_due (j := 14) T (c_law_is_function.mono (by decide)) (c_law_is_body.mono (by decide)) (c_law_lets.mono (by decide)) (c_law_strange.mono (by decide)) (pure_due)
  have c_is_name : Cal P w K mg base 1 "is_name" (spIsNameX) := mk_is_name (j := 0) T  (pure_isnameX)
  have c_is_whole : Cal P w K mg base 1 "is_whole" (spIsWholeX) := mk_is_whole (j := 0) T  (pure_iswholeX)
  have c_is_small : Cal P w K mg base 1 "is_small" (spIsSmallX) := mk_is_small (j := 0) T  (pure_issmallX)
  have c_is_row : Cal P w K mg base 2 "is_row" (spIsRowX) := mk_is_row (j := 1) T (c_is_name.mono (by decide)) (pure_isrowX)
  have c_are_rows : Cal P w K mg base 3 "are_rows" (spAreRowsX) := mk_are_rows (j := 2) T (c_is_row.mono (by decide)) (pure_arerowsX)
  have c_parts_of : Cal P w K mg base 4 "parts_of" (spPartsOfX) := mk_parts_of (j := 3) T (c_is_whole.mono (by decide)) (c_is_small.mono (by decide)) (c_is_name.mono (by decide)) (c_are_rows.mono (by decide)) (pure_partsofX T.k_PARTS)
  have c_is_body : Cal P w K mg base 5 "is_body" (spIsBodyX) := mk_is_body (j := 4) T (c_parts_of.mono (by decide)) (pure_isbodyX)
  have c_is_function : Cal P w K mg base 6 "is_function" (spIsFunctionX) := mk_is_function (j := 5) T (c_is_name.mono (by decide)) (c_is_body.mono (by decide)) (pure_isfunctionX)
  have c_is_built : Cal P w K mg base 7 "is_built" (spIsBuiltX) := mk_is_built (j := 6) T (c_is_function.mono (by decide)) (c_is_body.mono (by decide)) (pure_isbuiltX)
  have c_Twice___init__ : Xal P w K mg base 2 "Twice" (He.ga K "Twice") (spXInit K (He.ga K "Twice") "name") := mk_Twice___init__ (j := 0) T  (pure_initTwice T.errs)
  have c_Hidden___init__ : Xal P w K mg base 2 "Hidden" (He.ga K "Hidden") (spXInit K (He.ga K "Hidden") "name") := mk_Hidden___init__ (j := 0) T  (pure_initHidden T.errs)
  have c_look_unlike : CalX P w K mg base 3 "look_unlike" (spUnlikeX K) := mk_look_unlike (j := 2) T (c_Hidden___init__.mono (by decide)) (pure_unlikeX)
  have c_within : Cal P w K mg base 1 "within" (spKids) := mk_within (j := 0) T  (pure_within T.k_PARTS)
  have c_in_order : Cal P w K mg base 2 "in_order" (spOrder) := mk_in_order (j := 1) T (c_within.mono (by decide)) (pure_order)
  have c_row_names : Cal P w K mg base 3 "row_names" (spRowNames) := mk_row_names (j := 2) T (c_in_order.mono (by decide)) (pure_rownames)
  have c_Stranger___init__ : Xal P w K mg base 2 "Stranger" (He.ga K "Stranger") (spXInit K (He.ga K "Stranger") "name") := mk_Stranger___init__ (j := 0) T  (pure_initStranger T.errs)
  have c_look_named_0 : CalX P w K mg base 1 "look_named" (spNamedX K 0) := nv_look_named T (fun vs H Q E ⟨_, _, _, p, _, _, _, _, _, h, _⟩ => by have := p.mxd_kids; omega)
  have c_look_named_1 : CalX P w K mg base 3 "look_named" (spNamedX K 1) := mk_look_named (j := 2) T (c_Stranger___init__.mono (by decide)) (c_look_named_0.mono (by decide)) (pure_namedX T.k_PARTS)
  have c_look_named_2 : CalX P w K mg base 4 "look_named" (spNamedX K 2) := mk_look_named (j := 3) T (c_Stranger___init__.mono (by decide)) (c_look_named_1.mono (by decide)) (pure_namedX T.k_PARTS)
  have c_look_named_3 : CalX P w K mg base 5 "look_named" (spNamedX K 3) := mk_look_named (j := 4) T (c_Stranger___init__.mono (by decide)) (c_look_named_2.mono (by decide)) (pure_namedX T.k_PARTS)
  have c_look_named_4 : CalX P w K mg base 6 "look_named" (spNamedX K 4) := mk_look_named (j := 5) T (c_Stranger___init__.mono (by decide)) (c_look_named_3.mono (by decide)) (pure_namedX T.k_PARTS)
  have c_look_named_5 : CalX P w K mg base 7 "look_named" (spNamedX K 5) := mk_look_named (j := 6) T (c_Stranger___init__.mono (by decide)) (c_look_named_4.mono (by decide)) (pure_namedX T.k_PARTS)
  have c_look_named_6 : CalX P w K mg base 8 "look_named" (spNamedX K 6) := mk_look_named (j := 7) T (c_Stranger___init__.mono (by decide)) (c_look_named_5.mono (by decide)) (pure_namedX T.k_PARTS)
  have c_look_named_7 : CalX P w K mg base 9 "look_named" (spNamedX K 7) := mk_look_named (j := 8) T (c_Stranger___init__.mono (by decide)) (c_look_named_6.mono (by decide)) (pure_namedX T.k_PARTS)
  have c_look_named_8 : CalX P w K mg base 10 "look_named" (spNamedX K 8) := mk_look_named (j := 9) T (c_Stranger___init__.mono (by decide)) (c_look_named_7.mono (by decide)) (pure_namedX T.k_PARTS)
  have c_look_named_9 : CalX P w K mg base 11 "look_named" (spNamedX K 9) := mk_look_named (j := 10) T (c_Stranger___init__.mono (by decide)) (c_look_named_8.mono (by decide)) (pure_namedX T.k_PARTS)
  have c_look_named_10 : CalX P w K mg base 12 "look_named" (spNamedX K 10) := mk_look_named (j := 11) T (c_Stranger___init__.mono (by decide)) (c_look_named_9.mono (by decide)) (pure_namedX T.k_PARTS)
  have c_look_named_11 : CalX P w K mg base 13 "look_named" (spNamedX K 11) := mk_look_named (j := 12) T (c_Stranger___init__.mono (by decide)) (c_look_named_10.mono (by decide)) (pure_namedX T.k_PARTS)
  have c_look_named_12 : CalX P w K mg base 14 "look_named" (spNamedX K 12) := mk_look_named (j := 13) T (c_Stranger___init__.mono (by decide)) (c_look_named_11.mono (by decide)) (pure_namedX T.k_PARTS)
  have c_look_named := c_look_named_12
  have c_looked : CalX P w K mg base 15 "looked" (spLookedX K) := mk_looked (j := 14) T (c_is_built.mono (by decide)) (c_Twice___init__.mono (by decide)) (c_look_unlike.mono (by decide)) (c_row_names.mono (by decide)) (c_look_named.mono (by decide)) (pure_lookedX)
  have c_law_told : Cal P w K mg base 16 "_law_told" (spToldX) := mk_law_told (j := 15) T (c_looked.mono (by decide)) (pure_toldX T.errs)
  have c_PartReader___init__ : KCal P w K mg base 2 "PartReader" (He.ga K "PartReader") (spRInit K) := mk_PartReader___init__ (j := 0) T  (pure_rinit ⟨T.c_PartReader, T.a_PartReader_row, T.a_PartReader_words, T.a_PartReader_at, T.a_PartReader_left⟩)
  have c_PartReader_refuse : MCal P w K mg base 1 (He.ga K "PartReader") "refuse" (spNo) := mk_PartReader_refuse (j := 0) T  (pure_no)
  have c_PartReader_now : MCal P w K mg base 2 (He.ga K "PartReader") "now" (spNow K) := mk_PartReader_now (j := 1) T (c_PartReader_refuse.mono (by decide)) (pure_now ⟨T.c_PartReader, T.a_PartReader_row, T.a_PartReader_words, T.a_PartReader_at, T.a_PartReader_left⟩)
  have c_is_name_spIsNameG : Cal P w K mg base 1 "is_name" (spIsNameG) := mk_is_name (j := 0) T  (pure_isnameG)
  have c_is_marked : Cal P w K mg base 2 "is_marked" (spIsMark) := mk_is_marked (j := 1) T (c_is_name_spIsNameG.mono (by decide)) (pure_ismark)
  have c_PartReader_mark : MCal P w K mg base 3 (He.ga K "PartReader") "mark" (spMark K) := mk_PartReader_mark (j := 2) T (c_PartReader_now.mono (by decide)) (c_is_marked.mono (by decide)) (c_PartReader_refuse.mono (by decide)) (pure_mark ⟨T.c_PartReader, T.a_PartReader_row, T.a_PartReader_words, T.a_PartReader_at, T.a_PartReader_left⟩)
  have c_is_figures : Cal P w K mg base 1 "is_figures" (spIsFigs) := mk_is_figures (j := 0) T  (pure_isfigs)
  have c_PartReader_begin : MCal P w K mg base 3 (He.ga K "PartReader") "begin" (spBegin K) := mk_PartReader_begin (j := 2) T (c_PartReader_now.mono (by decide)) (c_is_figures.mono (by decide)) (c_is_marked.mono (by decide)) (c_PartReader_refuse.mono (by decide)) (pure_begin T.k_PARTS ⟨T.c_PartReader, T.a_PartReader_row, T.a_PartReader_words, T.a_PartReader_at, T.a_PartReader_left⟩)
  have c_PartReader_part_0 : MCal P w K mg base 1 (He.ga K "PartReader") "part" (spRPart K 0) := nv_PartReader_part T (fun vs H Q E ⟨_, _, _, _, _, _, _, _, p, _, _, _, _, _, h, _⟩ => by have := p.mxd_kids; omega)
  have c_PartReader_let_rows_1 : MCal P w K mg base 4 (He.ga K "PartReader") "let_rows" (spRRows K 0) := mk_PartReader_let_rows (j := 3) T (c_PartReader_now.mono (by decide)) (c_PartReader_refuse.mono (by decide)) (c_PartReader_mark.mono (by decide)) (c_PartReader_part_0.mono (by decide)) (pure_letrows ⟨T.c_PartReader, T.a_PartReader_row, T.a_PartReader_words, T.a_PartReader_at, T.a_PartReader_left⟩)
  have c_PartReader_part_1 : MCal P w K mg base 5 (He.ga K "PartReader") "part" (spRPart K 1) := mk_PartReader_part (j := 4) T (c_PartReader_begin.mono (by decide)) (c_PartReader_part_0.mono (by decide)) (c_PartReader_let_rows_1.mono (by decide)) (pure_rpart T.k_PARTS ⟨T.c_PartReader, T.a_PartReader_row, T.a_PartReader_words, T.a_PartReader_at, T.a_PartReader_left⟩)
  have c_PartReader_let_rows_2 : MCal P w K mg base 6 (He.ga K "PartReader") "let_rows" (spRRows K 1) := mk_PartReader_let_rows (j := 5) T (c_PartReader_now.mono (by decide)) (c_PartReader_refuse.mono (by decide)) (c_PartReader_mark.mono (by decide)) (c_PartReader_part_1.mono (by decide)) (pure_letrows ⟨T.c_PartReader, T.a_PartReader_row, T.a_PartReader_words, T.a_PartReader_at, T.a_PartReader_left⟩)
  have c_PartReader_part_2 : MCal P w K mg base 7 (He.ga K "PartReader") "part" (spRPart K 2) := mk_PartReader_part (j := 6) T (c_PartReader_begin.mono (by decide)) (c_PartReader_part_1.mono (by decide)) (c_PartReader_let_rows_2.mono (by decide)) (pure_rpart T.k_PARTS ⟨T.c_PartReader, T.a_PartReader_row, T.a_PartReader_words, T.a_PartReader_at, T.a_PartReader_left⟩)
  have c_PartReader_let_rows_3 : MCal P w K mg base 8 (He.ga K "PartReader") "let_rows" (spRRows K 2) := mk_PartReader_let_rows (j := 7) T (c_PartReader_now.mono (by decide)) (c_PartReader_refuse.mono (by decide)) (c_PartReader_mark.mono (by decide)) (c_PartReader_part_2.mono (by decide)) (pure_letrows ⟨T.c_PartReader, T.a_PartReader_row, T.a_PartReader_words, T.a_PartReader_at, T.a_PartReader_left⟩)
  have c_PartReader_part_3 : MCal P w K mg base 9 (He.ga K "PartReader") "part" (spRPart K 3) := mk_PartReader_part (j := 8) T (c_PartReader_begin.mono (by decide)) (c_PartReader_part_2.mono (by decide)) (c_PartReader_let_rows_3.mono (by decide)) (pure_rpart T.k_PARTS ⟨T.c_PartReader, T.a_PartReader_row, T.a_PartReader_words, T.a_PartReader_at, T.a_PartReader_left⟩)
  have c_PartReader_let_rows_4 : MCal P w K mg base 10 (He.ga K "PartReader") "let_rows" (spRRows K 3) := mk_PartReader_let_rows (j := 9) T (c_PartReader_now.mono (by decide)) (c_PartReader_refuse.mono (by decide)) (c_PartReader_mark.mono (by decide)) (c_PartReader_part_3.mono (by decide)) (pure_letrows ⟨T.c_PartReader, T.a_PartReader_row, T.a_PartReader_words, T.a_PartReader_at, T.a_PartReader_left⟩)
  have c_PartReader_part_4 : MCal P w K mg base 11 (He.ga K "PartReader") "part" (spRPart K 4) := mk_PartReader_part (j := 10) T (c_PartReader_begin.mono (by decide)) (c_PartReader_part_3.mono (by decide)) (c_PartReader_let_rows_4.mono (by decide)) (pure_rpart T.k_PARTS ⟨T.c_PartReader, T.a_PartReader_row, T.a_PartReader_words, T.a_PartReader_at, T.a_PartReader_left⟩)
  have c_PartReader_let_rows_5 : MCal P w K mg base 12 (He.ga K "PartReader") "let_rows" (spRRows K 4) := mk_PartReader_let_rows (j := 11) T (c_PartReader_now.mono (by decide)) (c_PartReader_refuse.mono (by decide)) (c_PartReader_mark.mono (by decide)) (c_PartReader_part_4.mono (by decide)) (pure_letrows ⟨T.c_PartReader, T.a_PartReader_row, T.a_PartReader_words, T.a_PartReader_at, T.a_PartReader_left⟩)
  have c_PartReader_part_5 : MCal P w K mg base 13 (He.ga K "PartReader") "part" (spRPart K 5) := mk_PartReader_part (j := 12) T (c_PartReader_begin.mono (by decide)) (c_PartReader_part_4.mono (by decide)) (c_PartReader_let_rows_5.mono (by decide)) (pure_rpart T.k_PARTS ⟨T.c_PartReader, T.a_PartReader_row, T.a_PartReader_words, T.a_PartReader_at, T.a_PartReader_left⟩)
  have c_PartReader_let_rows_6 : MCal P w K mg base 14 (He.ga K "PartReader") "let_rows" (spRRows K 5) := mk_PartReader_let_rows (j := 13) T (c_PartReader_now.mono (by decide)) (c_PartReader_refuse.mono (by decide)) (c_PartReader_mark.mono (by decide)) (c_PartReader_part_5.mono (by decide)) (pure_letrows ⟨T.c_PartReader, T.a_PartReader_row, T.a_PartReader_words, T.a_PartReader_at, T.a_PartReader_left⟩)
  have c_PartReader_part_6 : MCal P w K mg base 15 (He.ga K "PartReader") "part" (spRPart K 6) := mk_PartReader_part (j := 14) T (c_PartReader_begin.mono (by decide)) (c_PartReader_part_5.mono (by decide)) (c_PartReader_let_rows_6.mono (by decide)) (pure_rpart T.k_PARTS ⟨T.c_PartReader, T.a_PartReader_row, T.a_PartReader_words, T.a_PartReader_at, T.a_PartReader_left⟩)
  have c_PartReader_let_rows_7 : MCal P w K mg base 16 (He.ga K "PartReader") "let_rows" (spRRows K 6) := mk_PartReader_let_rows (j := 15) T (c_PartReader_now.mono (by decide)) (c_PartReader_refuse.mono (by decide)) (c_PartReader_mark.mono (by decide)) (c_PartReader_part_6.mono (by decide)) (pure_letrows ⟨T.c_PartReader, T.a_PartReader_row, T.a_PartReader_words, T.a_PartReader_at, T.a_PartReader_left⟩)
  have c_PartReader_part_7 : MCal P w K mg base 17 (He.ga K "PartReader") "part" (spRPart K 7) := mk_PartReader_part (j := 16) T (c_PartReader_begin.mono (by decide)) (c_PartReader_part_6.mono (by decide)) (c_PartReader_let_rows_7.mono (by decide)) (pure_rpart T.k_PARTS ⟨T.c_PartReader, T.a_PartReader_row, T.a_PartReader_words, T.a_PartReader_at, T.a_PartReader_left⟩)
  have c_PartReader_let_rows_8 : MCal P w K mg base 18 (He.ga K "PartReader") "let_rows" (spRRows K 7) := mk_PartReader_let_rows (j := 17) T (c_PartReader_now.mono (by decide)) (c_PartReader_refuse.mono (by decide)) (c_PartReader_mark.mono (by decide)) (c_PartReader_part_7.mono (by decide)) (pure_letrows ⟨T.c_PartReader, T.a_PartReader_row, T.a_PartReader_words, T.a_PartReader_at, T.a_PartReader_left⟩)
  have c_PartReader_part_8 : MCal P w K mg base 19 (He.ga K "PartReader") "part" (spRPart K 8) := mk_PartReader_part (j := 18) T (c_PartReader_begin.mono (by decide)) (c_PartReader_part_7.mono (by decide)) (c_PartReader_let_rows_8.mono (by decide)) (pure_rpart T.k_PARTS ⟨T.c_PartReader, T.a_PartReader_row, T.a_PartReader_words, T.a_PartReader_at, T.a_PartReader_left⟩)
  have c_PartReader_let_rows_9 : MCal P w K mg base 20 (He.ga K "PartReader") "let_rows" (spRRows K 8) := mk_PartReader_let_rows (j := 19) T (c_PartReader_now.mono (by decide)) (c_PartReader_refuse.mono (by decide)) (c_PartReader_mark.mono (by decide)) (c_PartReader_part_8.mono (by decide)) (pure_letrows ⟨T.c_PartReader, T.a_PartReader_row, T.a_PartReader_words, T.a_PartReader_at, T.a_PartReader_left⟩)
  have c_PartReader_part_9 : MCal P w K mg base 21 (He.ga K "PartReader") "part" (spRPart K 9) := mk_PartReader_part (j := 20) T (c_PartReader_begin.mono (by decide)) (c_PartReader_part_8.mono (by decide)) (c_PartReader_let_rows_9.mono (by decide)) (pure_rpart T.k_PARTS ⟨T.c_PartReader, T.a_PartReader_row, T.a_PartReader_words, T.a_PartReader_at, T.a_PartReader_left⟩)
  have c_PartReader_let_rows_10 : MCal P w K mg base 22 (He.ga K "PartReader") "let_rows" (spRRows K 9) := mk_PartReader_let_rows (j := 21) T (c_PartReader_now.mono (by decide)) (c_PartReader_refuse.mono (by decide)) (c_PartReader_mark.mono (by decide)) (c_PartReader_part_9.mono (by decide)) (pure_letrows ⟨T.c_PartReader, T.a_PartReader_row, T.a_PartReader_words, T.a_PartReader_at, T.a_PartReader_left⟩)
  have c_PartReader_part_10 : MCal P w K mg base 23 (He.ga K "PartReader") "part" (spRPart K 10) := mk_PartReader_part (j := 22) T (c_PartReader_begin.mono (by decide)) (c_PartReader_part_9.mono (by decide)) (c_PartReader_let_rows_10.mono (by decide)) (pure_rpart T.k_PARTS ⟨T.c_PartReader, T.a_PartReader_row, T.a_PartReader_words, T.a_PartReader_at, T.a_PartReader_left⟩)
  have c_PartReader_let_rows_11 : MCal P w K mg base 24 (He.ga K "PartReader") "let_rows" (spRRows K 10) := mk_PartReader_let_rows (j := 23) T (c_PartReader_now.mono (by decide)) (c_PartReader_refuse.mono (by decide)) (c_PartReader_mark.mono (by decide)) (c_PartReader_part_10.mono (by decide)) (pure_letrows ⟨T.c_PartReader, T.a_PartReader_row, T.a_PartReader_words, T.a_PartReader_at, T.a_PartReader_left⟩)
  have c_PartReader_part_11 : MCal P w K mg base 25 (He.ga K "PartReader") "part" (spRPart K 11) := mk_PartReader_part (j := 24) T (c_PartReader_begin.mono (by decide)) (c_PartReader_part_10.mono (by decide)) (c_PartReader_let_rows_11.mono (by decide)) (pure_rpart T.k_PARTS ⟨T.c_PartReader, T.a_PartReader_row, T.a_PartReader_words, T.a_PartReader_at, T.a_PartReader_left⟩)
  have c_PartReader_let_rows_12 : MCal P w K mg base 26 (He.ga K "PartReader") "let_rows" (spRRows K 11) := mk_PartReader_let_rows (j := 25) T (c_PartReader_now.mono (by decide)) (c_PartReader_refuse.mono (by decide)) (c_PartReader_mark.mono (by decide)) (c_PartReader_part_11.mono (by decide)) (pure_letrows ⟨T.c_PartReader, T.a_PartReader_row, T.a_PartReader_words, T.a_PartReader_at, T.a_PartReader_left⟩)
  have c_PartReader_part_12 : MCal P w K mg base 27 (He.ga K "PartReader") "part" (spRPart K 12) := mk_PartReader_part (j := 26) T (c_PartReader_begin.mono (by decide)) (c_PartReader_part_11.mono (by decide)) (c_PartReader_let_rows_12.mono (by decide)) (pure_rpart T.k_PARTS ⟨T.c_PartReader, T.a_PartReader_row, T.a_PartReader_words, T.a_PartReader_at, T.a_PartReader_left⟩)
  have c_PartReader_let_rows := c_PartReader_let_rows_12
  have c_PartReader_part := c_PartReader_part_12
  have c_PartReader_whole : MCal P w K mg base 28 (He.ga K "PartReader") "whole" (spRWhole K) := mk_PartReader_whole (j := 27) T (c_PartReader_part.mono (by decide)) (c_PartReader_refuse.mono (by decide)) (pure_rwhole ⟨T.c_PartReader, T.a_PartReader_row, T.a_PartReader_words, T.a_PartReader_at, T.a_PartReader_left⟩)
  have c_read_part : Cal P w K mg base 29 "read_part" (spReadPart K) := mk_read_part (j := 28) T (c_PartReader___init__.mono (by decide)) (c_PartReader_whole.mono (by decide)) (pure_readpart)
  have c_read_function : Cal P w K mg base 30 "read_function" (spReadFnB K) := mk_read_function (j := 29) T (c_is_name_spIsNameG.mono (by decide)) (c_is_marked.mono (by decide)) (c_read_part.mono (by decide)) (pure_readfnB)
  have c_read : CalX P w K mg base 31 "read" (spReadX K) := mk_read (j := 30) T (c_read_part.mono (by decide)) (c_read_function.mono (by decide)) (c_looked.mono (by decide)) (pure_readX)
  have c_words_of_0 : Cal P w K mg base 1 "words_of" (spWords 0) := nv_words_of T (fun vs H Q E ⟨_, p, _, _, _, _, h, _⟩ => by have := p.mxd_kids; omega)
  have c_words_of_1 : Cal P w K mg base 2 "words_of" (spWords 1) := mk_words_of (j := 1) T (c_words_of_0.mono (by decide)) (pure_words T.k_PARTS)
  have c_words_of_2 : Cal P w K mg base 3 "words_of" (spWords 2) := mk_words_of (j := 2) T (c_words_of_1.mono (by decide)) (pure_words T.k_PARTS)
  have c_words_of_3 : Cal P w K mg base 4 "words_of" (spWords 3) := mk_words_of (j := 3) T (c_words_of_2.mono (by decide)) (pure_words T.k_PARTS)
  have c_words_of_4 : Cal P w K mg base 5 "words_of" (spWords 4) := mk_words_of (j := 4) T (c_words_of_3.mono (by decide)) (pure_words T.k_PARTS)
  have c_words_of_5 : Cal P w K mg base 6 "words_of" (spWords 5) := mk_words_of (j := 5) T (c_words_of_4.mono (by decide)) (pure_words T.k_PARTS)
  have c_words_of_6 : Cal P w K mg base 7 "words_of" (spWords 6) := mk_words_of (j := 6) T (c_words_of_5.mono (by decide)) (pure_words T.k_PARTS)
  have c_words_of_7 : Cal P w K mg base 8 "words_of" (spWords 7) := mk_words_of (j := 7) T (c_words_of_6.mono (by decide)) (pure_words T.k_PARTS)
  have c_words_of_8 : Cal P w K mg base 9 "words_of" (spWords 8) := mk_words_of (j := 8) T (c_words_of_7.mono (by decide)) (pure_words T.k_PARTS)
  have c_words_of_9 : Cal P w K mg base 10 "words_of" (spWords 9) := mk_words_of (j := 9) T (c_words_of_8.mono (by decide)) (pure_words T.k_PARTS)
  have c_words_of_10 : Cal P w K mg base 11 "words_of" (spWords 10) := mk_words_of (j := 10) T (c_words_of_9.mono (by decide)) (pure_words T.k_PARTS)
  have c_words_of_11 : Cal P w K mg base 12 "words_of" (spWords 11) := mk_words_of (j := 11) T (c_words_of_10.mono (by decide)) (pure_words T.k_PARTS)
  have c_words_of_12 : Cal P w K mg base 13 "words_of" (spWords 12) := mk_words_of (j := 12) T (c_words_of_11.mono (by decide)) (pure_words T.k_PARTS)
  have c_words_of := c_words_of_12
  have c_function_text : Cal P w K mg base 14 "function_text" (spFTextB) := mk_function_text (j := 13) T (c_words_of.mono (by decide)) (pure_ftextB)
  have c_part_text : Cal P w K mg base 14 "part_text" (spText) := mk_part_text (j := 13) T (c_words_of.mono (by decide)) (pure_text)
  have c_written : Cal P w K mg base 15 "written" (spWrittenB) := mk_written (j := 14) T (c_function_text.mono (by decide)) (c_part_text.mono (by decide)) (pure_writtenB)
  have c_law_read_told : Cal P w K mg base 32 "_law_read_told" (spReadTold) := mk_law_read_told (j := 31) T (c_read.mono (by decide)) (c_written.mono (by decide)) (pure_readtold T.errm)
  exact mkl_law (j := 32) F T (c_law_pen.mono (by decide)) (c_law_named_program.mono (by decide)) (c_law_due.mono (by decide)) (c_law_told.mono (by decide)) (c_law_read_told.mono (by decide)) (pure_law)
end
end Lz
open PySem PySem.W PySem.Calls PyProof.Rows
theorem PySem.Challenge.cw_lazywebs_k07_names_that_stand_ahead_holds : PySem.Challenge.rw_lazywebs_k07_names_that_stand_ahead.Holds := by
  w_on; o_law
  refine HandSHeadRun.head_any (r := OpenLaw.row PySem.Challenge.rw_lazywebs_k07_names_that_stand_ahead) (q := view (OpenLaw.row PySem.Challenge.rw_lazywebs_k07_names_that_stand_ahead).prog [63]) (H := Lz.hk) (ob := Lz.ob) (M := 6000) (loose := Lz.hloose) (d := HandSHeadRun.topDef (OpenLaw.row PySem.Challenge.rw_lazywebs_k07_names_that_stand_ahead).prog 63) (kwd := []) Lz.ob_eq
    (by kernel_rfl) (fun s => by kernel_rfl) Lz.hrun (by kernel_rfl) (by kernel_rfl) (by kernel_rfl) (by rfl) (by first | assumption | decide +kernel) (by decide +kernel) ⟨rfl, rfl, rfl, rfl, rfl, by decide +kernel⟩ ?hw ?hc
  case hw => w_witness2
  case hc =>
    refine L2.walk_ofE (l := PySem.Challenge.rw_lazywebs_k07_names_that_stand_ahead) (n := 63) (k := 33) (x := "_law_script") (CX := L2.CX0) rfl (by decide) (by kernel_rfl) ⟨rfl, by decide, by decide⟩ ?F (fun _ _ _ _ z => z)
    intro w mg fa h Y G hmg0
    obtain ⟨K, KX, c⟩ := Y
    have T := Lz.tx_mk KX G c
    have hmg : mg ("law" : PySem.Str) = some (.ref fa) := by
      have e : (HandSHeadRun.topDef (OpenLaw.row PySem.Challenge.rw_lazywebs_k07_names_that_stand_ahead).prog 63).name = ("law" : PySem.Str) := by kernel_rfl
      rw [← e]
      exact hmg0
    have e := hmg.symm.trans T.f_law
    cases e
    obtain ⟨fd, F⟩ := T.d_law
    have b := L2.FunD.bindsA (ps := ["_law_script"]) F fun _ _ _ _ _ _ us hl => match us, hl with | [_], _ => rfl
    exact ⟨K, fd, Lz.spLaw K, KX, fun s u => b s [u] rfl, fun H a ns hl _ hS => ⟨a, ns, rfl, hS, hl, fun _ => rfl⟩, fun base _ _ => Lz.law_ok T F⟩
#print axioms PySem.Challenge.cw_lazywebs_k07_names_that_stand_ahead_holds
