import PyProof.Rows.All
import Wide.All
import OpenK.AllK
import Wide.FinOn
import KE.KStateDown
import Lean
import HandS.Base
import HandS.Call
import HandS.List
import HandS.Comp
import HandS.Ends
import HandS.Dict
import HandS.Iter
import HandS.Text
import HandS.More
import HandS.Exc
import HandS.Words
import HandS.WordsList
import HandS.Defaults
import HandS.Wide
import HandS.TupAny
import HandS.Flow
import HandS.Style
import HandS.Conv
import HandS.IsInst
import HandS.Head0
import HandS.Head1
import HandS.Head2
import HandS.HeadEnd
import HandS.HeadHook1
import HandS.HeadHook2
import HandS.HeadHook3
import HandS.DeepEq
import PyProof.NeData
import HandS.Codes
import HandS.ExcOwn
import HandS.ExcInit
import HandS.WordsExc
import KE.KExcIs
import PyProof.StrOps2
import HandS.HeadHook4
import PySem.Challenge.RW_lazywebs_k73_texts_at_their_bounds
set_option Elab.async false
set_option linter.all false
set_option maxRecDepth 100000
set_option maxHeartbeats 4000000
namespace Lz
open PySem PySem.Spec PyProof.Rows L2
/-! ### heaps by what is known of them -/
/-- a new object o at p -/
def New (H : Hp) (o : HO) (R : Addr → Hp → Prop) : Prop := ∀ p H', H p = none → H' p = some o → Same H H' → R p H'
/-- but for a all is as it was -/
def Chg (a : Addr) (H H' : Hp) : Prop := ∀ b o, b ≠ a → H b = some o → H' b = some o
/-- the object at a is now o -/
def Put (H : Hp) (a : Addr) (o : HO) (R : Hp → Prop) : Prop := ∀ H', H' a = some o → Chg a H H' → R H'
theorem same_upd {H : Hp} {p : Addr} {o : HO} (h : H p = none) : Same H (upd H p o) := fun b u e => by rw [upd_ne (ne_of_none e h)]; exact e
theorem New.at {H : Hp} {o : HO} {R : Addr → Hp → Prop} (h : New H o R) : ∀ p, H p = none → R p (upd H p o) := fun p hp => h p _ hp upd_same (same_upd hp)
theorem Put.at {H : Hp} {a : Addr} {o : HO} {R : Hp → Prop} (h : Put H a o R) : R (upd H a o) := h _ upd_same fun b u n e => by rw [upd_ne n]; exact e
section
variable {X : Cx}
theorem opr_imp {f : Value → Value → Sem Value} {r r' : R2} (h : OpR X f r) (i : ∀ x y H Q, r' x y H Q → r x y H Q) : OpR X f r' := fun pins s σ H x y v u Q I rx ry q => h pins s σ H x y v u Q I rx ry (i _ _ _ _ q)
theorem callr_imp {f : Value} {r r' : List V → Hp → VK → Prop} (h : CallR X f r) (i : ∀ xs H Q, r' xs H Q → r xs H Q) : CallR X f r' := fun pins s σ H xs us Q I rs q => h pins s σ H xs us Q I rs (i _ _ _ q)
theorem mtr_imp {id : String} {r r' : V → List V → Hp → VK → Prop} (h : MtR X id r) (i : ∀ x xs H Q, r' x xs H Q → r x xs H Q) : MtR X id r' := fun pins s σ H x xs v us Q I rx rs q => h pins s σ H x xs v us Q I rx rs (i _ _ _ _ q)
theorem slr_imp {r r' : V → Option Int → Option Int → Hp → VK → Prop} (h : SlR X r) (i : ∀ x lo hi H Q, r' x lo hi H Q → r x lo hi H Q) : SlR X r' := fun pins s σ H x v vl vu lo hi sl Q I rx hs pl pu q => h pins s σ H x v vl vu lo hi sl Q I rx hs pl pu (i _ _ _ _ _ q)
/-- a reading's upward closure -/
def clA (t : TA) : TA := fun σ H Q => ∃ Q0, t σ H Q0 ∧ ∀ xs H1, Q0 xs H1 → Q xs H1
def clE (t : TE) : TE := fun σ H Q => ∃ Q0, t σ H Q0 ∧ ∀ x H1, Q0 x H1 → Q x H1
theorem pa_cl {es : List Expr} {t : TA} (h : PA X es t) : PA X es (clA t) := ⟨fun pos pins s σ H Q I ⟨Q0, q, i⟩ => thn (h.run pos pins s σ H Q0 I q) fun us s' ⟨vs, H', I', r, q'⟩ => ⟨vs, H', I', r, i _ _ q'⟩⟩
theorem pe_cl {e : Expr} {t : TE} (h : PE X e t) : PE X e (clE t) := ⟨fun pins s σ H Q I ⟨Q0, q, i⟩ => thn (h.run pins s σ H Q0 I q) fun us s' ⟨vs, H', I', r, q'⟩ => ⟨vs, H', I', r, i _ _ q'⟩⟩
/-- displays -/
def tTupN (t : TA) : TE := fun σ H Q => t σ H fun xs H1 => xs.length ≤ sizeLine ∧ New H1 (.tup xs) fun p H2 => Q (.ref p) H2
def tLstN (t : TA) : TE := fun σ H Q => t σ H fun xs H1 => xs.length ≤ sizeLine ∧ New H1 (.lst xs) fun p H2 => Q (.ref p) H2
theorem pe_tupN {es : List Expr} {t : TA} {x1 pos} (h : PA X es t) : PE X (.Tuple es x1 pos) (tTupN t) :=
  ⟨fun pins s σ H Q I q => (pe_tup (pa_cl h)).run pins s σ H Q I ⟨_, q, fun xs H1 ⟨hl, n⟩ => ⟨hl, n.at⟩⟩⟩
theorem pe_lstN {es : List Expr} {t : TA} {pos} (h : PA X es t) : PE X (.List es pos) (tLstN t) :=
  ⟨fun pins s σ H Q I q => (pe_lst (pa_cl h)).run pins s σ H Q I ⟨_, q, fun xs H1 ⟨hl, n⟩ => ⟨hl, n.at⟩⟩⟩
def tDNewKN : TE := fun _ H Q => New H (.dK []) fun p H2 => Q (.ref p) H2
/-- a display of a dict: its pairs while it is empty, then filled -/
def tDispN (trs : List (TE × TE)) : TE := fun σ H Q => New H (.dK []) fun p H1 => tPairs trs σ H1 fun ps H2 => H2 p = some (.dK []) ∧ ∃ kvs : List (Key × V), ps = kvs.map (fun kv => (kV kv.1, kv.2)) ∧ kvs.length ≤ 15 ∧ Put H2 p (.dK (mergeK [] kvs)) fun H' => Q (.ref p) H'
def clP (trs : List (TE × TE)) : List (TE × TE) := trs.map fun q => (clE q.1, clE q.2)
theorem tPairs_cl : ∀ (trs : List (TE × TE)) (σ : L2.St) (H : Hp) (Q Q' : List (V × V) → Hp → Prop), tPairs trs σ H Q → (∀ ps H', Q ps H' → Q' ps H') → tPairs (clP trs) σ H Q'
  | [], σ, H, Q, Q', h, i => i _ _ h
  | (tk, tv) :: r, σ, H, Q, Q', h, i => ⟨_, h, fun x H1 h1 => ⟨_, h1, fun y H2 h2 => tPairs_cl r σ H2 _ _ h2 fun ps H3 h3 => i _ _ h3⟩⟩
theorem pe_dispN {pos : Pos} {keys : List (Option Expr)} {values : List Expr} {trs : List (TE × TE)} (h : PPs X pos keys values (clP trs)) (hall : keys.all (·.isSome) = true) (hl : keys.length = values.length) (h0 : keys ≠ [])
    (h15 : keys.length ≤ 15) : PE X (.Dict keys values pos) (tDispN trs) :=
  ⟨fun pins s σ H Q I q => (pe_disp h hall hl h0 h15).run pins s σ H Q I fun p hp => tPairs_cl trs σ _ _ _ (q p _ hp upd_same (same_upd hp)) fun ps H2 ⟨e, kvs, e1, e2, n⟩ => ⟨e, kvs, e1, e2, n.at⟩⟩
end
/-! ### operators, whatever the operands are -/
section
variable {X : Cx}
def rAddG (K : PySem.W.Frag) : R2 := fun x y H Q => (rI0 fun i j => .int (i + j)) x y H Q ∨ (∃ i j, x = .str i ∧ y = .str j ∧ i.length + j.length ≤ sizeLine ∧ Q (.str (i ++ j)) H) ∨
  (∃ l b xs zs, x = .ref l ∧ y = .ref b ∧ H l = some (.lst xs) ∧ H b = some (.lst zs) ∧ xs.length + zs.length ≤ sizeLine ∧ New H (.lst (xs ++ zs)) fun p H' => Q (.ref p) H') ∨
  (∃ a b xs ys, x = .ref a ∧ y = .ref b ∧ SqT K H a xs ∧ SqT K H b ys ∧ xs.length + ys.length ≤ sizeLine ∧
    (xs = [] → Q (.ref b) H) ∧ (xs ≠ [] → ys = [] → Q (.ref a) H) ∧ (xs ≠ [] → ys ≠ [] → New H (.tup (xs ++ ys)) fun p H' => Q (.ref p) H'))
theorem op_addG : OpR X (binaryOp .Add) (rAddG X.K) := opr_imp (op_add.or (op_add_str.or (op_cat.or op_catA))) fun x y H Q h => by
  rcases h with h | h | ⟨l, b, xs, zs, e1, e2, h1, h2, hl, n⟩ | ⟨a, b, xs, ys, e1, e2, h1, h2, hl, n0, n1, n⟩
  · exact .inl h
  · exact .inr (.inl h)
  · exact .inr (.inr (.inl ⟨l, b, xs, zs, e1, e2, h1, h2, hl, n.at⟩))
  · exact .inr (.inr (.inr ⟨a, b, xs, ys, e1, e2, h1, h2, hl, n0, n1, fun x1 y1 => (n x1 y1).at⟩))
abbrev rSubG : R2 := rI0 fun i j => .int (i - j)
def rMulG : R2 := fun x y H Q => (rI CMul fun i j => .int (i * j)) x y H Q ∨ (rI CMulW fun i j => .int (i * j)) x y H Q
theorem op_mulG : OpR X (binaryOp .Mult) rMulG := op_mul.or op_mulW
abbrev rDivG : R2 := rI CDivW fun i j => .int (i / j)
abbrev rModG : R2 := rI (fun _ j => 0 < j) fun i j => .int (i % j)
abbrev rPowG : R2 := rI CPow fun i j => .int (i ^ j.toNat)
/-- values that are like themselves at once: those of hits_all, and one and the same object -/
def flatR : V → Bool
  | .ref _ => true
  | v => flatB v
theorem eqAt_sameR {A : Around} {s : Shared} {v : V} {u u' : Value} (r : RelV v u) (r' : RelV v u') (f : flatR v = true) : SeqAt.EqAt A s u u' true := by
  cases v with
  | ref a =>
    obtain rfl : u = Value.ref a := r
    obtain rfl : u' = Value.ref a := r'
    exact SeqAt.EqAt.same _
  | _ => exact eqAt_same r r' f
theorem hits_allR {κ : Type} [DecidableEq κ] {A : Around} {s : Shared} {kvs : List (κ × V)} {vb : List (κ × Value)} (rb : KV kvs vb) {ks : List (κ × V)} {va : List (κ × Value)} (ra : KV ks va) :
    (∀ p ∈ ks, valV kvs p.1 = some p.2 ∧ flatR p.2 = true) → PySem.W.KeqHits A s vb va true := by
  unfold KV at ra
  induction ra with
  | nil => intro _; exact .nil
  | @cons p q ps qs h t ih =>
    intro hp
    obtain ⟨h1, h2⟩ := h
    obtain ⟨e, f⟩ := hp p List.mem_cons_self
    have rr : RelO (some p.2) (valueAt vb p.1) := by rw [← e]; exact rb.val p.1
    obtain ⟨y, hy, ry⟩ := rr.some_of
    obtain ⟨k, v⟩ := q
    have h1' : p.1 = k := h1
    rw [h1'] at hy
    show PySem.W.KeqHits A s vb ((k, v) :: qs) (true && true)
    exact .hit hy (eqAt_sameR h2 ry f) (ih fun p' hm => hp p' (List.mem_cons_of_mem _ hm))
/-- two dicts that hold the same, whatever the order of their keys is; values flat or the same objects -/
def rSameD (b : Bool) : R2 := fun x y H Q => ∃ p q ks ls, x = .ref p ∧ y = .ref q ∧ H p = some (.dK ks) ∧ H q = some (.dK ls) ∧ ks.length = ls.length ∧ (∀ p ∈ ks, valV ls p.1 = some p.2 ∧ flatR p.2 = true) ∧ Q (.bl b) H
theorem op_eq_dictR (hu : X.A.units < cLine) : OpR X (compareOp .Eq) (rSameD true) := by
  intro pins s σ H x y v u Q I rx ry h
  obtain ⟨a, b, ks, ls, rfl, rfl, ea, eb, hlen, hp, q⟩ := h
  obtain rfl : v = Value.ref a := rx
  obtain rfl : u = Value.ref b := ry
  obtain ⟨_, ya, va, ra, da⟩ := (show ObjOk X.prog X.w H s.heap a (.dK ks) from I.hok a _ ea)
  obtain ⟨_, yb, vb, rb, db⟩ := (show ObjOk X.prog X.w H s.heap b (.dK ls) from I.hok b _ eb)
  have hl : va.length = vb.length := by rw [← ra.length, ← rb.length]; exact hlen
  exact PySem.W.keq_eq (knd := mixKind X.prog X.w) (r := true) ya yb da db hu (fun _ => hits_allR rb ra hp) (fin_bl I q (by simp [hl]))
theorem op_ne_dictR (hu : X.A.units < cLine) : OpR X (compareOp .NotEq) (rSameD false) := by
  intro pins s σ H x y v u Q I rx ry h
  obtain ⟨a, b, ks, ls, rfl, rfl, ea, eb, hlen, hp, q⟩ := h
  obtain rfl : v = Value.ref a := rx
  obtain rfl : u = Value.ref b := ry
  obtain ⟨_, ya, va, ra, da⟩ := (show ObjOk X.prog X.w H s.heap a (.dK ks) from I.hok a _ ea)
  obtain ⟨_, yb, vb, rb, db⟩ := (show ObjOk X.prog X.w H s.heap b (.dK ls) from I.hok b _ eb)
  have hl : va.length = vb.length := by rw [← ra.length, ← rb.length]; exact hlen
  exact PySem.W.keq_ne (knd := mixKind X.prog X.w) (r := true) ya yb da db hu (fun _ => hits_allR rb ra hp) (fin_bl I q (by simp [hl]))
end
/-! ### alike: by structure, down to flat values or to one and the same object; however deep (the stack has room) -/
/-- two lists, two tuples of alike items -/
def LkR (K : PySem.W.Frag) (H : Hp) (E : V → V → Prop) (x y : V) : Prop :=
  (∃ a b xs ys, x = .ref a ∧ y = .ref b ∧ SqL K H a xs ∧ SqL K H b ys ∧ Paired E xs ys) ∨ ∃ a b xs ys, x = .ref a ∧ y = .ref b ∧ SqT K H a xs ∧ SqT K H b ys ∧ Paired E xs ys
def Lk (K : PySem.W.Frag) (H : Hp) : Nat → V → V → Prop
  | 0 => fun _ _ => False
  | n + 1 => fun x y => (x = y ∧ flatB x = true) ∨ (∃ a, x = .ref a ∧ y = .ref a) ∨ LkR K H (Lk K H n) x y
theorem items_like {A : Around} {s : Shared} {F : V → V → Prop} (ih : ∀ x y v u, F x y → RelV x v → RelV y u → SeqAt.EqAt A s v u true) {xs ys : List V} (hp : Paired F xs ys) :
    ∀ {us ws : List Value}, Vals xs us → Vals ys ws → ∀ j (h1 : j < us.length) (h2 : j < ws.length), SeqAt.EqAt A s us[j] ws[j] true := by
  induction hp with
  | nil =>
    intro us ws r1 r2 j h1 h2
    cases r1
    exact absurd h1 (Nat.not_lt_zero j)
  | cons h _ k =>
    intro us ws r1 r2 j h1 h2
    cases r1 with
    | cons a1 b1 =>
      cases r2 with
      | cons a2 b2 =>
        cases j with
        | zero => exact ih _ _ _ _ h a1 a2
        | succ j => exact k b1 b2 j (Nat.lt_of_succ_lt_succ h1) (Nat.lt_of_succ_lt_succ h2)
section
variable {X : Cx} {pins : List (Addr × Obj)} {σ : L2.St} {H : Hp} {s : Shared}
/-- both, asked by == or by !=: R is what is told of lists and of tuples -/
theorem like_run {R : Around → Shared → Value → Value → Bool → Prop} {t : Bool} (I : Inv X pins σ H s) {A : Around} {F : V → V → Prop} (hu : A.units < cLine)
    (hl : ∀ {l b : Addr} {items items2 : Array Value} {e : Nat → Bool}, s.heap.IsList l items → s.heap.IsList b items2 → items.size = items2.size → (∀ j (h1 : j < items.size) (h2 : j < items2.size), SeqAt.EqAt A.in1 s items[j] items2[j] (e j)) →
      (List.range items.size).all e = true → R A s (.ref l) (.ref b) t)
    (ht : ∀ {l b : Addr} {items items2 : Array Value} {e : Nat → Bool}, s.heap.IsTuple l items → s.heap.IsTuple b items2 → (∀ j (h1 : j < items.size) (h2 : j < items2.size), SeqAt.EqAt A.in1 s items[j] items2[j] (e j)) →
      ((List.range (min items.size items2.size)).all e && items.size == items2.size) = true → R A s (.ref l) (.ref b) t)
    (ih : ∀ x y v u, F x y → RelV x v → RelV y u → SeqAt.EqAt A.in1 s v u true) {x y : V} {v u : Value} (h : LkR X.K H F x y) (rx : RelV x v) (ry : RelV y u) : R A s v u t := by
  rcases h with ⟨a, b, xs, ys, rfl, rfl, ha, hb, hp⟩ | ⟨a, b, xs, ys, rfl, rfl, ha, hb, hp⟩
  · cases (show v = Value.ref a from rx)
    cases (show u = Value.ref b from ry)
    obtain ⟨us, r1, p1, _⟩ := I.list ha
    obtain ⟨ws, r2, p2, _⟩ := I.list hb
    have hsz : us.toArray.size = ws.toArray.size := by
      rw [List.size_toArray, List.size_toArray, ← r1.length, ← r2.length]
      exact Paired.length hp
    refine hl (e := fun _ => true) p1.isList p2.isList hsz (fun j h1 h2 => ?_) (List.all_eq_true.mpr fun _ _ => rfl)
    have k := items_like ih hp r1 r2 j (by simpa using h1) (by simpa using h2)
    simpa using k
  · cases (show v = Value.ref a from rx)
    cases (show u = Value.ref b from ry)
    obtain ⟨us, r1, p1, _⟩ := I.tuple ha
    obtain ⟨ws, r2, p2, _⟩ := I.tuple hb
    have hsz : us.toArray.size = ws.toArray.size := by
      rw [List.size_toArray, List.size_toArray, ← r1.length, ← r2.length]
      exact Paired.length hp
    refine ht (e := fun _ => true) p1 p2 (fun j h1 h2 => ?_) ?_
    · have k := items_like ih hp r1 r2 j (by simpa using h1) (by simpa using h2)
      simpa using k
    · rw [Bool.and_eq_true]
      exact ⟨List.all_eq_true.mpr fun _ _ => rfl, by simpa using hsz⟩
theorem lk_eqAt (I : Inv X pins σ H s) : ∀ (n : Nat) (A : Around), A.units + n < cLine → ∀ (x y : V) (v u : Value), Lk X.K H n x y → RelV x v → RelV y u → SeqAt.EqAt A s v u true
  | 0, _, _, _, _, _, _, h, _, _ => (show False from h).elim
  | n + 1, A, hu, x, y, v, u, h, rx, ry => by
    rcases h with ⟨rfl, f⟩ | ⟨a, rfl, rfl⟩ | h
    · exact eqAt_same rx ry f
    · cases (show v = Value.ref a from rx)
      cases (show u = Value.ref a from ry)
      exact SeqAt.EqAt.same _
    · have hu1 : A.units < cLine := by omega
      have step : SeqAt.RcAt A s v u true := like_run (R := SeqAt.RcAt) I hu1 (fun h1 h2 h3 h4 h5 => h5 ▸ SeqAt.RcAt.lists h1 h2 h3 hu1 h4) (fun h1 h2 h4 h5 => h5 ▸ SeqAt.RcAt.tuples h1 h2 hu1 h4)
        (lk_eqAt I n A.in1 (by show A.units + 1 + n < cLine; omega)) h rx ry
      obtain ⟨a, b, rfl, rfl⟩ : ∃ a b, x = .ref a ∧ y = .ref b := by
        rcases h with ⟨a, b, _, _, e1, e2, _⟩ | ⟨a, b, _, _, e1, e2, _⟩
        · exact ⟨a, b, e1, e2⟩
        · exact ⟨a, b, e1, e2⟩
      cases (show v = Value.ref a from rx)
      cases (show u = Value.ref b from ry)
      by_cases e : a = b
      · subst e
        exact SeqAt.EqAt.same _
      · exact SeqAt.EqAt.of_refs e step
end
section
variable {X : Cx}
/-- a == b, a != b of two lists, two tuples that are alike -/
def rLikeN (K : PySem.W.Frag) (N : Nat) (t : Bool) : R2 := fun x y H Q => ∃ n, n ≤ N ∧ LkR K H (Lk K H n) x y ∧ Q (.bl t) H
abbrev rLike (K : PySem.W.Frag) (t : Bool) : R2 := rLikeN K 150 t
theorem op_eqLike {N : Nat} (hu : X.A.units + (N + 50) < cLine) : OpR X (compareOp .Eq) (rLikeN X.K N true) := by
  intro pins s σ H x y v u Q I rx ry h
  obtain ⟨n, hn, h, q⟩ := h
  have hu1 : X.A.units < cLine := by omega
  have step : SeqAt.RcAt X.A s v u true := like_run (R := SeqAt.RcAt) I hu1 (fun h1 h2 h3 h4 h5 => h5 ▸ SeqAt.RcAt.lists h1 h2 h3 hu1 h4) (fun h1 h2 h4 h5 => h5 ▸ SeqAt.RcAt.tuples h1 h2 hu1 h4)
    (lk_eqAt I n X.A.in1 (by show X.A.units + 1 + n < cLine; omega)) h rx ry
  exact step X.prog X.w X.xe _ ⟨.bl true, H, I, rfl, q⟩
theorem op_neLike {N : Nat} (hu : X.A.units + (N + 50) < cLine) : OpR X (compareOp .NotEq) (rLikeN X.K N false) := by
  intro pins s σ H x y v u Q I rx ry h
  obtain ⟨n, hn, h, q⟩ := h
  have hu1 : X.A.units < cLine := by omega
  have step : SeqAt.RcNeAt X.A s v u false := like_run (R := SeqAt.RcNeAt) I hu1
    (fun h1 h2 h3 h4 h5 => by have := SeqAt.RcNeAt.lists h1 h2 h3 hu1 h4; rw [h5] at this; exact this) (fun h1 h2 h4 h5 => by have := SeqAt.RcNeAt.tuples h1 h2 hu1 h4; rw [h5] at this; exact this)
    (lk_eqAt I n X.A.in1 (by show X.A.units + 1 + n < cLine; omega)) h rx ry
  exact step X.prog X.w X.xe _ ⟨.bl false, H, I, rfl, q⟩
end
section
variable {X : Cx}
/-- two lists of unlike lengths -/
def rLens (K : PySem.W.Frag) (t : Bool) : R2 := fun x y H Q => ∃ a b xs ys, x = .ref a ∧ y = .ref b ∧ SqL K H a xs ∧ SqL K H b ys ∧ xs.length ≠ ys.length ∧ Q (.bl t) H
theorem op_eqLens (hu : X.A.units < cLine) : OpR X (compareOp .Eq) (rLens X.K false) := by
  intro pins s σ H x y v u Q I rx ry ⟨a, b, xs, ys, e1, e2, ha, hb, hn, q⟩
  subst e1
  subst e2
  cases (show v = Value.ref a from rx)
  cases (show u = Value.ref b from ry)
  obtain ⟨us, r1, p1, _⟩ := I.list ha
  obtain ⟨ws, r2, p2, _⟩ := I.list hb
  have e : (us.toArray.size != ws.toArray.size) = true := by rw [List.size_toArray, List.size_toArray, ← r1.length, ← r2.length]; simpa using hn
  exact (SeqAt.RcAt.lists_lengths p1.isList p2.isList e hu) X.prog X.w X.xe _ ⟨.bl false, H, I, rfl, q⟩
theorem op_neLens (hu : X.A.units < cLine) : OpR X (compareOp .NotEq) (rLens X.K true) := by
  intro pins s σ H x y v u Q I rx ry ⟨a, b, xs, ys, e1, e2, ha, hb, hn, q⟩
  subst e1
  subst e2
  cases (show v = Value.ref a from rx)
  cases (show u = Value.ref b from ry)
  obtain ⟨us, r1, p1, _⟩ := I.list ha
  obtain ⟨ws, r2, p2, _⟩ := I.list hb
  have e : (us.toArray.size != ws.toArray.size) = true := by rw [List.size_toArray, List.size_toArray, ← r1.length, ← r2.length]; simpa using hn
  exact (SeqAt.RcNeAt.lists_lengths p1.isList p2.isList e hu) X.prog X.w X.xe _ ⟨.bl true, H, I, rfl, q⟩
def rEqG (K : PySem.W.Frag) : R2 := fun x y H Q => rEq x y H Q ∨ rEqD K x y H Q ∨ rSameD true x y H Q ∨ rLike K true x y H Q ∨ rLens K false x y H Q
def rNeG (K : PySem.W.Frag) : R2 := fun x y H Q => rNe x y H Q ∨ rNeD K x y H Q ∨ rSameD false x y H Q ∨ rLike K false x y H Q ∨ rLens K true x y H Q
theorem op_eqG (hu : X.A.units + 200 < cLine) : OpR X (compareOp .Eq) (rEqG X.K) := op_eq.or ((op_eqD (by omega)).or ((op_eq_dictR (by omega)).or ((op_eqLike hu).or (op_eqLens (by omega)))))
theorem op_neG (hu : X.A.units + 200 < cLine) : OpR X (compareOp .NotEq) (rNeG X.K) := op_ne.or ((op_neD (by omega)).or ((op_ne_dictR (by omega)).or ((op_neLike hu).or (op_neLens (by omega)))))
theorem hu2_of {k : Nat} {A : Around} (hr : Room k A) : A.units + 200 < cLine := by have := hr.un; omega
/-- the same where there is more room: alike up to a thousand deep -/
def rEqB (K : PySem.W.Frag) : R2 := fun x y H Q => rEqG K x y H Q ∨ rLikeN K 1000 true x y H Q
def rNeB (K : PySem.W.Frag) : R2 := fun x y H Q => rNeG K x y H Q ∨ rLikeN K 1000 false x y H Q
abbrev rLtG : R2 := rI0 fun i j => .bl (decide (i < j))
abbrev rLeG : R2 := rI0 fun i j => .bl (decide (i ≤ j))
abbrev rGtG : R2 := rI0 fun i j => .bl (decide (j < i))
abbrev rGeG : R2 := rI0 fun i j => .bl (decide (j ≤ i))
/-- y in a tracked dict -/
def rInT (neg : Bool) : R2 := fun y x H Q => ∃ a o, x = .ref a ∧ DGet H a y o ∧ Q (.bl (if neg then !o.isSome else o.isSome)) H
theorem op_in_t (hu : X.A.units + 1 < cLine) : OpR X (compareOp .In) (rInT false) := by
  intro pins s σ H y x u v Q I ry rx h
  obtain ⟨a, o, rfl, g, q⟩ := h
  cases rx
  exact d_in hu I g ry fun s' I' => ⟨.bl o.isSome, H, I', rfl, q⟩
theorem op_notIn_t (hu : X.A.units + 1 < cLine) : OpR X (compareOp .NotIn) (rInT true) := by
  intro pins s σ H y x u v Q I ry rx h
  obtain ⟨a, o, rfl, g, q⟩ := h
  cases rx
  exact d_notIn hu I g ry fun s' I' => ⟨.bl (!o.isSome), H, I', rfl, q⟩
/-- the written dict at d holds z's value, or nothing -/
def KGet (K : PySem.W.Frag) (w : World) (d : Addr) (z : Str) (r : Option V) : Prop :=
  ∃ es n, KDict K w d es n ∧ ((r = none ∧ PySem.W.nsIn K d z = some none) ∨ ∃ u v, r = some v ∧ PySem.W.nsIn K d z = some (some u) ∧ RelV v u)
def rInK (K : PySem.W.Frag) (w : World) (neg : Bool) : R2 := fun y x H Q => ∃ z d r, y = .str z ∧ x = .ref d ∧ KGet K w d z r ∧ Q (.bl (if neg then !r.isSome else r.isSome)) H
theorem KGet.ns {K : PySem.W.Frag} {w : World} {d : Addr} {z : Str} {r : Option V} (h : KGet K w d z r) : ∃ es n r', KDict K w d es n ∧ PySem.W.nsIn K d z = some r' ∧ r'.isSome = r.isSome := by
  obtain ⟨es, n, D, ⟨rfl, e⟩ | ⟨u, v, rfl, e, _⟩⟩ := h
  · exact ⟨es, n, none, D, e, rfl⟩
  · exact ⟨es, n, some u, D, e, rfl⟩
theorem op_in_k : OpR X (compareOp .In) (rInK X.K X.w false) := by
  intro pins s σ H y x u v Q I ry rx h
  obtain ⟨z, d, r, rfl, rfl, g, q⟩ := h
  obtain ⟨es, n, r', D, e, e2⟩ := g.ns
  exact op_in_kd D pins s σ H _ _ u v Q I ry rx ⟨z, r', rfl, rfl, e, by rw [e2]; exact q⟩
theorem op_notIn_k : OpR X (compareOp .NotIn) (rInK X.K X.w true) := by
  intro pins s σ H y x u v Q I ry rx h
  obtain ⟨z, d, r, rfl, rfl, g, q⟩ := h
  obtain ⟨es, n, r', D, e, e2⟩ := g.ns
  exact op_notIn_kd D pins s σ H _ _ u v Q I ry rx ⟨z, r', rfl, rfl, e, by rw [e2]; exact q⟩
def rInS (neg : Bool) : R2 := fun x y H Q => ∃ i j, x = .str i ∧ y = .str j ∧ Q (.bl (if neg then !(!(Builtin.Str.occurrences j i 0 j.length 1).isEmpty) else !(Builtin.Str.occurrences j i 0 j.length 1).isEmpty)) H
theorem op_in_s : OpR X (compareOp .In) (rInS false) := op_in_str
theorem op_notIn_s : OpR X (compareOp .NotIn) (rInS true) := op_notIn_str
def rInG (K : PySem.W.Frag) (w : World) (neg : Bool) : R2 := fun x y H Q => rIn K neg x y H Q ∨ rInS neg x y H Q ∨ rInT neg x y H Q ∨ rInK K w neg x y H Q
theorem op_inG (hu : X.A.units + 1 < cLine) : OpR X (compareOp .In) (rInG X.K X.w false) := op_in_seq.or (op_in_s.or ((op_in_t hu).or op_in_k))
theorem op_notInG (hu : X.A.units + 1 < cLine) : OpR X (compareOp .NotIn) (rInG X.K X.w true) := op_notIn_seq.or (op_notIn_s.or ((op_notIn_t hu).or op_notIn_k))
/-! ### is -/
def rIsG (neg : Bool) : R2 := fun x y H Q => (y = .non ∧ Q (.bl (if neg then !decide (x = .non) else decide (x = .non))) H) ∨ (∃ a b : Bool, x = .bl a ∧ y = .bl b ∧ Q (.bl (if neg then !decide (a = b) else decide (a = b))) H)
theorem op_isG : OpR X (compareOp .Is) (rIsG false) := op_isN.or op_isBl
theorem op_isNotG : OpR X (compareOp .IsNot) (rIsG true) := op_notN.or op_notBl
/-! ### len of anything -/
def rLenD : List V → Hp → VK → Prop := fun xs H Q => ∃ a kvs, xs = [.ref a] ∧ Rd H a (.dK kvs) ∧ Q (.int kvs.length) H
theorem call_lenK : CallR X (.builtin "len") rLenD := by
  intro pins s σ H xs us Q I r h
  obtain ⟨a, kvs, rfl, g, q⟩ := h
  obtain ⟨u, rfl, ru⟩ := vals1 r
  cases ru
  exact d_len I g fun t s' I' => ⟨.int kvs.length, H, I', ⟨t, rfl⟩, q⟩
def rLenG (K : PySem.W.Frag) : List V → Hp → VK → Prop := fun xs H Q => (∃ x n, xs = [x] ∧ LenV K x H n ∧ Q (.int n) H) ∨ rLenD xs H Q
theorem call_lenG : CallR X (.builtin "len") (rLenG X.K) := call_len.or call_lenK
/-! ### what is walked -/
def iOr (a b : TI) : TI := fun σ H R => a σ H R ∨ b σ H R
theorem piOr {tg e : Expr} {a b : TI} (ha : PI X tg e a) (hb : PI X tg e b) : PI X tg e (iOr a b) :=
  ⟨fun pins s σ H R I h => h.elim (ha.run pins s σ H R I) (hb.run pins s σ H R I)⟩
/-- a list, a tuple, a text -/
def iSeq (K : PySem.W.Frag) (te : TE) : TI := iOr (iList K te) (iOr (iTup K te) (iStr te))
theorem pi_seq {tg e : Expr} {te : TE} (h : PE X e te) : PI X tg e (iSeq X.K te) := piOr (pi_list h) (piOr (pi_tup h) (pi_str h))
end

/-! ### subscripts, slices, stores -/
section
variable {X : Cx}
def rGetT : R2 := fun x y H Q => ∃ a v, x = .ref a ∧ DGet H a y (some v) ∧ Q v H
theorem ix_dictT (hu : X.A.units + 1 < cLine) : IxR X rGetT := by
  intro value slice pins s σ H x y v u Q I rx ry h hs
  obtain ⟨a, z, rfl, g, q⟩ := h
  cases rx
  exact tail_any (dict_typeIs I g) PySem.F.slot_dict_getitem.lookup (d_getItem hu I g ry fun w' s3 I3 rw' => ⟨z, H, I3, rw', q⟩) hs
def rGetK (K : PySem.W.Frag) (w : World) : R2 := fun x y H Q => ∃ d z v, x = .ref d ∧ y = .str z ∧ KGet K w d z (some v) ∧ Q v H
theorem ix_dictK : IxR X (rGetK X.K X.w) := by
  intro value slice pins s σ H x y v u Q I rx ry h hs
  obtain ⟨d, z, r, rfl, rfl, ⟨es, n, D, ⟨e0, _⟩ | ⟨u0, v0, e0, e1, r0⟩⟩, q⟩ := h
  · cases e0
  · cases e0
    have ry' := ry
    cases rx
    exact tail_any (kd_type D I) PySem.F.slot_dict_getitem.lookup (op_item_kd D pins s σ H (.ref d) (.str z) (.ref d) u Q I rfl ry' ⟨z, u0, r, rfl, rfl, e1, r0, q⟩) hs
def rIxG (K : PySem.W.Frag) (w : World) : R2 := fun x y H Q => rIx K x y H Q ∨ rGetT x y H Q ∨ rGetK K w x y H Q
theorem ix_any (hu : X.A.units + 1 < cLine) : IxR X (rIxG X.K X.w) := ix_seq.or ((ix_dictT hu).or ix_dictK)
def tIxG (K : PySem.W.Frag) (w : World) (ta tb : TE) : TE := tOp (rIxG K w) ta tb
theorem pe_ixG {a b : Expr} {ta tb : TE} {pos : Pos} (hu : X.A.units + 1 < cLine) (ha : PE X a ta) (hb : PE X b tb) (hs : PlainIx b) : PE X (.Subscript a b pos) (tIxG X.K X.w ta tb) := pe_ix (ix_any hu) ha hb hs
def rSlG (K : PySem.W.Frag) : V → Option Int → Option Int → Hp → VK → Prop := fun x lo hi H Q => (∃ a xs, x = .ref a ∧ SqL K H a xs ∧ New H (.lst (cutV xs lo hi)) fun p H' => Q (.ref p) H') ∨
  (∃ a xs, x = .ref a ∧ SqT K H a xs ∧ (HT.sIx xs.length 0 lo = 0 ∧ HT.sIx xs.length xs.length hi = xs.length → Q (.ref a) H) ∧ (¬ (HT.sIx xs.length 0 lo = 0 ∧ HT.sIx xs.length xs.length hi = xs.length) → New H (.tup (cutV xs lo hi)) fun p H' => Q (.ref p) H')) ∨ rSlS x lo hi H Q
theorem sl_any : SlR X (rSlG X.K) := slr_imp (sl_list.or (sl_tupA.or sl_str)) fun x lo hi H Q h => by
  rcases h with ⟨a, xs, e, h, n⟩ | ⟨a, xs, e, h, n1, n2⟩ | h
  · exact .inl ⟨a, xs, e, h, n.at⟩
  · exact .inr (.inl ⟨a, xs, e, h, n1, fun z => (n2 z).at⟩)
  · exact .inr (.inr h)
def tRevG (K : PySem.W.Frag) (te : TE) : TE := fun σ H Q => te σ H fun x H1 => ∃ a xs, x = .ref a ∧ SqL K H1 a xs ∧ New H1 (.lst xs.reverse) fun p H' => Q (.ref p) H'
theorem pe_revG {e : Expr} {te : TE} {k : Nat} {p1 p2 p3 pos : Pos} (he : PE X e te) : PE X (.Subscript e (.Slice none none (some (.UnaryOp .USub (.Constant (.int 1) k p1) p2)) p3) pos) (tRevG X.K te) :=
  ⟨fun pins s σ H Q I q => (pe_revL (pe_cl he)).run pins s σ H Q I ⟨_, q, fun x H1 ⟨a, xs, e, h, n⟩ => ⟨a, xs, e, h, n.at⟩⟩⟩
def rSetD : TSet := fun o i v H Q => ∃ a H', o = .ref a ∧ DPut H a i v H' ∧ Q H'
theorem set_dict (hu : X.A.units + 1 < cLine) : PSet X rSetD := by
  intro pins s σ H o i v ov iv u Q I ro ri rv h
  obtain ⟨a, H', rfl, g, q⟩ := h
  cases ro
  exact d_setItem hu I g ri rv fun s' I' => ⟨H', I', q⟩
def rSetG : TSet := fun o i v H Q => (∃ p xs k j, o = .ref p ∧ i = .int k ∧ H p = some (.lst xs) ∧ ixN xs.length k = some j ∧ Put H p (.lst (xs.set j v)) Q) ∨
  (∃ a kvs k, o = .ref a ∧ H a = some (.dK kvs) ∧ i = kV k ∧ kvs.length < sizeLine ∧ Put H a (.dK (putK kvs k v)) Q)
theorem set_any (hu : X.A.units + 1 < cLine) : PSet X rSetG := by
  intro pins s σ H o i v ov iv u Q I ro ri rv h
  rcases h with ⟨p, xs, k, j, e1, e2, h1, h2, q⟩ | ⟨a, kvs, k, e1, h1, e2, hl, q⟩
  · exact set_list pins s σ H o i v ov iv u Q I ro ri rv ⟨p, xs, k, j, e1, e2, h1, h2, q.at⟩
  · exact set_dict hu pins s σ H o i v ov iv u Q I ro ri rv ⟨a, _, e1, .inl ⟨kvs, k, h1, e2, hl, rfl⟩, q.at⟩
/-! ### tests by truth -/
def tTru (K : PySem.W.Frag) (ta : TE) : TT := fun σ H Q => ta σ H fun x H' => ∃ k, TruV K x H' k ∧ Q k H'
theorem pt_tru {a : Expr} {ta : TE} (ha : PE X a ta) (he : ∀ whole, isTrue a X.env whole = (do let v ← whole; standAt a.pos; holding [v] (truthy v))) : PT X a (tTru X.K ta) := pt_truth ha he
/-! ### builtins -/
abbrev rAbsG : List V → Hp → VK → Prop := fun xs H Q => ∃ i, xs = [.int i] ∧ Q (.int (if i < 0 then -i else i)) H
abbrev rMax2 : List V → Hp → VK → Prop := fun xs H Q => ∃ i j, xs = [.int i, .int j] ∧ Q (.int (if j > i then j else i)) H
abbrev rMin2 : List V → Hp → VK → Prop := fun xs H Q => ∃ i j, xs = [.int i, .int j] ∧ Q (.int (if j < i then j else i)) H
def rIntS : List V → Hp → VK → Prop := fun xs H Q => ∃ a n, xs = [.str a] ∧ PySem.intText? a = some n ∧ a.length ≤ 640 ∧ Q (.int n) H
def rIntG : List V → Hp → VK → Prop := fun xs H Q => (∃ i, xs = [.int i] ∧ Q (.int i) H) ∨ ∃ k, xs = [.bl k] ∧ Q (.int (if k then 1 else 0)) H
abbrev rBool1 : List V → Hp → VK → Prop := fun xs H Q => (∃ i, xs = [.int i] ∧ Q (.bl (i != 0)) H) ∨ ∃ k, xs = [.bl k] ∧ Q (.bl k) H
abbrev rStrG : List V → Hp → VK → Prop := fun xs H Q => ∃ i, xs = [.int i] ∧ i.natAbs.log2 < 1920 ∧ Q (.str (toString i)) H
def rListG (K : PySem.W.Frag) : List V → Hp → VK → Prop := fun xs H Q => (∃ p ys, xs = [.ref p] ∧ (SqL K H p ys ∨ SqT K H p ys) ∧ New H (.lst ys) fun l H' => Q (.ref l) H') ∨
  ∃ p kvs, xs = [.ref p] ∧ H p = some (.dK kvs) ∧ New H (.lst (kvs.map fun kv => kV kv.1)) fun q H' => Q (.ref q) H'
theorem call_listG (hc : X.calm = true) : CallR X (.type "list") (rListG X.K) := callr_imp (CallR.or call_list_of (call_list_dK hc)) fun xs H Q h => by
  rcases h with ⟨p, ys, e, h, n⟩ | ⟨p, kvs, e, h, n⟩
  · exact .inl ⟨p, ys, e, h, n.at⟩
  · exact .inr ⟨p, kvs, e, h, n.at⟩
def rTupleG (K : PySem.W.Frag) : List V → Hp → VK → Prop := fun xs H Q => ∃ p ys, xs = [.ref p] ∧ ((SqL K H p ys ∧ New H (.tup ys) fun l H' => Q (.ref l) H') ∨ (SqT K H p ys ∧ Q (.ref p) H))
theorem call_tupleG : CallR X (.type "tuple") (rTupleG X.K) := callr_imp call_tuple_of fun xs H Q ⟨p, ys, e, h⟩ => ⟨p, ys, e, h.imp (fun ⟨a, n⟩ => ⟨a, n.at⟩) id⟩
/-! ### methods of lists and texts -/
def rAppendG : V → List V → Hp → VK → Prop := fun x vs H Q => ∃ l xs y, x = .ref l ∧ vs = [y] ∧ H l = some (.lst xs) ∧ xs.length < sizeLine ∧ Put H l (.lst (xs ++ [y])) fun H' => Q .non H'
theorem mt_appendG : MtR X "list.append" rAppendG := mtr_imp mt_append fun x xs H Q ⟨l, ys, y, e1, e2, h, hl, q⟩ => ⟨l, ys, y, e1, e2, h, hl, q.at⟩
def rExtendG : V → List V → Hp → VK → Prop := fun x vs H Q => ∃ l b xs zs, x = .ref l ∧ vs = [.ref b] ∧ H l = some (.lst xs) ∧ H b = some (.lst zs) ∧ xs.length + zs.length ≤ sizeLine ∧ Put H l (.lst (xs ++ zs)) fun H' => Q .non H'
theorem mt_extendG : MtR X "list.extend" rExtendG := mtr_imp mt_extend fun x xs H Q ⟨l, b, ys, zs, e1, e2, h, h2, hl, q⟩ => ⟨l, b, ys, zs, e1, e2, h, h2, hl, q.at⟩
def rPopG : V → List V → Hp → VK → Prop := fun x vs H Q => ∃ l xs y, x = .ref l ∧ vs = [] ∧ H l = some (.lst xs) ∧ xs[xs.length - 1]? = some y ∧ Put H l (.lst xs.dropLast) fun H' => Q y H'
theorem mt_popG : MtR X "list.pop" rPopG := mtr_imp mt_pop fun x xs H Q ⟨l, ys, y, e1, e2, h, hl, q⟩ => ⟨l, ys, y, e1, e2, h, hl, q.at⟩
abbrev rIsiG := rIsi
theorem call_isiG : CallR X (.builtin "isinstance") (rIsiG X.K) := call_isi
def rSplitG : V → List V → Hp → VK → Prop := fun x xs H Q => ∃ a b, x = .str a ∧ xs = [.str b] ∧ (b.length == 0) = false ∧ a.length + 2 ≤ sizeLine ∧ New H (.lst ((Txt.split a b).map V.str)) fun p H' => Q (.ref p) H'
abbrev rJoinG (K : PySem.W.Frag) : V → List V → Hp → VK → Prop := fun x xs H Q => ∃ a p, ∃ ys : List Str, x = .str a ∧ xs = [.ref p] ∧ (SqL K H p (ys.map V.str) ∨ SqT K H p (ys.map V.str)) ∧
      (ys.map (·.length)).sum + ys.length * a.length ≤ 16777216 ∧ Q (.str (Txt.join a ys)) H
theorem pe_splitG {o e : Expr} {to te : TE} {apos pos : Pos} (ho : PE X o to) (he : PE X e te) (hs : starEach [e] X.env = [(false, eval e X.env)] := by rfl) (hbase : attributeBase o "split" X.env (eval o X.env) = eval o X.env := by rfl) (hline : (apos.endLine == pos.line) = true := by rfl) :
    PE X (.Call (.Attribute o "split" apos) [e] [] pos) (tM1 rSplitG to te) :=
  pe_m1 F.slot_str_split F.type_str_split (mtr_imp mt_split fun x xs H Q ⟨a, b, e1, e2, h1, h2, n⟩ => ⟨a, b, e1, e2, h1, h2, n.at⟩) ho he hs hbase hline
/-- a module's constant by its value -/
theorem pe_gc {x : Str} {v : V} {pos : Pos} (hg : Gl X x) (h : ∃ u, X.mg x = some u ∧ RelV v u) (hd : (x == ("__debug__" : Str)) = false := by decide) : PE X (.Name x pos) (tC v) := by
  obtain ⟨u, h1, h2⟩ := h
  exact pe_glob hg h1 h2 hd
end
/-! ### calls of the text's own defs -/
/-- a def that may be called by its name (no exception leaves it) -/
structure Cal (P : Program) (w : World) (K : PySem.W.Frag) (mg : Str → Option Value) (base : Heap) (k : Nat) (x : Str) (sp : Sp) : Prop where
  ex : ∃ (f : Addr) (fd : FuncData) (ps : List Str), FnOk P w K mg base CX0 k f fd ps sp ∧ mg x = some (.ref f) ∧ PySem.W.keepIn K (.ref f) = true ∧ Binds K fd ps []
section
variable {P : Program} {w : World} {K : PySem.W.Frag} {mg : Str → Option Value} {base : Heap}
theorem Cal.mono {j k : Nat} {x : Str} {sp : Sp} (c : Cal P w K mg base j x sp) (h : j ≤ k) : Cal P w K mg base k x sp := by
  obtain ⟨f, fd, ps, F, a, b, d⟩ := c.ex
  exact ⟨f, fd, ps, F.mono h, a, b, d⟩
theorem Cal.imp {k : Nat} {x : Str} {sp sp' : Sp} (c : Cal P w K mg base k x sp) (h : ∀ vs H Q E, sp' vs H Q E → sp vs H Q E) : Cal P w K mg base k x sp' := by
  obtain ⟨f, fd, ps, F, a, b, d⟩ := c.ex
  exact ⟨f, fd, ps, F.imp h, a, b, d⟩
theorem cal_mk {x : Str} {params : Arguments} {body : List Stmt} {scope : Scope} {f : Addr} {fd : FuncData} {N ps : List Str} {k : Nat} {sp : Sp} (F : FunD K x x params body scope [] [] f fd) (hm : mg x = some (.ref f)) (S : FnScope N ps scope)
    (b : Binds K fd ps []) (len : ∀ vs H Q E, sp vs H Q E → vs.length = ps.length)
    (hbody : ∀ (cdv : Value) (A : Around) (outer : List Env) (s : Shared) (H : Hp) (vs : List V) (Q : VK) (E : XK), Room k (A.deeper (envOfC x scope s.heap.objs.size f cdv)) → sp vs H Q E →
      ∃ t, PSs (cxOf CX0 P w K mg base N x scope f cdv A outer s H E) body t ∧ t { nx := fun _ H' => Q .non H', rt := Q } (start N vs) H) : Cal P w K mg base (k + 1) x sp :=
  ⟨f, fd, ps, F.ok S len hbody, hm, F.kp, b⟩
end
section
variable {X : Cx} {k : Nat} {x : Str} {sp : Sp} {p pos : Pos} {e : Expr} {es : List Expr} {t : TA}
theorem pe_cal (c : Cal X.prog X.w X.K X.mg X.base k x sp) (hr : Room k X.A) (hg : Gl X x) (ha : PA X (e :: es) t)
    (hdb : (x == ("__debug__" : Str)) = false := by decide) (he : starEach (e :: es) X.env = (false, eval e X.env) :: starEach es X.env := by rfl) (hpl : (backTo pos (starEach es X.env)).any (·.1) = false := by rfl) :
    PE X (.Call (.Name x p) (e :: es) [] pos) (tCall sp [] E0 t) := by
  obtain ⟨f, fd, ps, F, a, b, d⟩ := c.ex
  exact pe_call F hr hg a b d .nil pass0 ha hdb he hpl
end
/-- the slots at the entry: m of them -/
def startN (m : Nat) (vs : List V) : L2.St := vs.map some ++ List.replicate (m - vs.length) none
/-- what of a def is shown without the text: its reading, run at its parameters' values, keeps its promise -/
structure PureOk (n : Nat) (sp : Sp) (t : TS) (m : Nat) : Prop where
  len : ∀ vs H Q E, sp vs H Q E → vs.length = n
  run : ∀ vs H Q E, sp vs H Q E → t { nx := fun _ H' => Q .non H', rt := Q } (startN m vs) H
/-- a written table with text keys -/
def KTab (K : PySem.W.Frag) (w : World) (d : Addr) (kvs : List (Str × V)) : Prop := ∀ z : Str, KGet K w d z ((kvs.find? fun q => decide (q.1 = z)).map (·.2))

/-! ### readings, step by step -/
section
variable {K : PySem.W.Frag} {w : World} {D : Ends} {σ σ' : L2.St} {H : Hp} {Q : VK} {v x y : V} {i j : Int} {n : Nat} {ta tb tc te : TE} {t u : TS} {p a b : Addr} {xs ys : List V} {s z : Str}
theorem g_seq (h : t { D with nx := u D } σ H) : tSeq t u D σ H := h
theorem g_next (h : D.nx σ H) : tNext D σ H := h
theorem g_ret (h : te σ H D.rt) : tRet te D σ H := h
theorem g_drop (h : te σ H fun _ H1 => D.nx σ H1) : tDrop te D σ H := h
theorem g_ifs {c : TT} (h : c σ H fun b H1 => if b = true then t D σ H1 else u D σ H1) : tIfS c t u D σ H := h
theorem g_asg {g : TG} (h : te σ H fun x H1 => g x σ H1 D.nx) : tAsg te g D σ H := h
theorem g_par {k l : Nat} {ta : TA} (h : ta σ H fun vs H1 => ∃ v w, vs = [v, w] ∧ D.nx ((σ.set k (some v)).set l (some w)) H1) : tPar k l ta D σ H := h
theorem g_name {Q : L2.St → Hp → Prop} {k : Nat} (h : σ.set k (some v) = σ') (q : Q σ' H) : gName k v σ H Q := by subst h; exact q
theorem g_sub {to ti : TE} {ts : TSet} {Q : L2.St → Hp → Prop} (h : to σ H fun o H1 => ti σ H1 fun i H2 => ts o i v H2 fun H3 => Q σ H3) : gSub to ti ts v σ H Q := h
theorem g_var {k : Nat} (h : σ[k]? = some (some v)) (q : Q v H) : tVar k σ H Q := ⟨v, h, q⟩
theorem g_c (q : Q v H) : tC v σ H Q := q
theorem g_op {r : R2} (h : ta σ H fun x H1 => tb σ H1 fun y H2 => r x y H2 Q) : tOp r ta tb σ H Q := h
theorem g_ixop (h : ta σ H fun x H1 => tb σ H1 fun y H2 => rIxG K w x y H2 Q) : tIxG K w ta tb σ H Q := h
theorem g_un {r : V → Hp → VK → Prop} (h : ta σ H fun x H1 => r x H1 Q) : tUn r ta σ H Q := h
theorem g_neg (q : Q (.int (-i)) H) : rU (fun i => .int (-i)) (.int i) H Q := ⟨i, rfl, q⟩
theorem g_test {Q : Bool → Hp → Prop} (h : te σ H fun x H' => ∃ k, x = .bl k ∧ Q k H') : tTest te σ H Q := h
theorem g_not {c : TT} {Q : Bool → Hp → Prop} (h : c σ H fun c H1 => Q (!c) H1) : tNot c σ H Q := h
theorem g_and {c d : TT} {Q : Bool → Hp → Prop} (h : c σ H fun c H1 => if c = true then d σ H1 Q else Q false H1) : tAnd c d σ H Q := h
theorem g_or {c d : TT} {Q : Bool → Hp → Prop} (h : c σ H fun c H1 => if c = true then Q true H1 else d σ H1 Q) : tOr c d σ H Q := h
theorem g_tru {Q : Bool → Hp → Prop} (h : ta σ H fun x H' => ∃ k, TruV K x H' k ∧ Q k H') : tTru K ta σ H Q := h
theorem g_trubl {R : Bool → Prop} {k : Bool} (q : R k) : ∃ k', TruV K (.bl k) H k' ∧ R k' := ⟨k, rfl, q⟩
theorem g_truint {R : Bool → Prop} (q : R (i != 0)) : ∃ k', TruV K (.int i) H k' ∧ R k' := ⟨_, rfl, q⟩
theorem g_bl {R : Bool → Prop} {k : Bool} (q : R k) : ∃ k', V.bl k = .bl k' ∧ R k' := ⟨k, rfl, q⟩
theorem g_ifx {c : TT} (h : c σ H fun c H1 => if c = true then ta σ H1 Q else tb σ H1 Q) : tIf c ta tb σ H Q := h
theorem g_andT (h : ta σ H fun x H1 => ∃ k, TruV K x H1 k ∧ if k = true then tb σ H1 Q else Q x H1) : tAndT K ta tb σ H Q := h
theorem g_orT (h : ta σ H fun x H1 => ∃ k, TruV K x H1 k ∧ if k = true then Q x H1 else tb σ H1 Q) : tOrT K ta tb σ H Q := h
theorem g_notT (h : ta σ H fun x H1 => ∃ k, TruV K x H1 k ∧ Q (.bl (!k)) H1) : tNotT K ta σ H Q := h
theorem g_nil {Q : List V → Hp → Prop} (q : Q [] H) : tNil σ H Q := q
theorem g_cons {Q : List V → Hp → Prop} {tr : TA} (h : te σ H fun x H1 => tr σ H1 fun xs H2 => Q (x :: xs) H2) : tCons te tr σ H Q := h
theorem g_call {sp : Sp} {E : XK} {t : TA} (h : t σ H fun vs H1 => sp (vs ++ []) H1 Q E) : tCall sp [] E t σ H Q := h
theorem g_cb {r : List V → Hp → VK → Prop} {t : TA} (h : t σ H fun vs H1 => r vs H1 Q) : tCB r t σ H Q := h
theorem g_tup {t : TA} (h : t σ H fun xs H1 => xs.length ≤ sizeLine ∧ New H1 (.tup xs) fun p H2 => Q (.ref p) H2) : tTupN t σ H Q := h
theorem g_lst {t : TA} (h : t σ H fun xs H1 => xs.length ≤ sizeLine ∧ New H1 (.lst xs) fun p H2 => Q (.ref p) H2) : tLstN t σ H Q := h
theorem g_len {R : Prop} (hl : xs.length ≤ sizeLine) (q : R) : xs.length ≤ sizeLine ∧ R := ⟨hl, q⟩
theorem g_dnew (h : New H (.dK []) fun p H2 => Q (.ref p) H2) : tDNewKN σ H Q := h
theorem g_disp {trs : List (TE × TE)} (h : New H (.dK []) fun p H1 => tPairs trs σ H1 fun ps H2 => H2 p = some (.dK []) ∧ ∃ kvs : List (Key × V), ps = kvs.map (fun kv => (kV kv.1, kv.2)) ∧ kvs.length ≤ 15 ∧ Put H2 p (.dK (mergeK [] kvs)) fun H' => Q (.ref p) H') : tDispN trs σ H Q := h
theorem g_pnil {Q : List (V × V) → Hp → Prop} (q : Q [] H) : tPairs [] σ H Q := q
theorem g_pcons {Q : List (V × V) → Hp → Prop} {r : List (TE × TE)} (h : ta σ H fun x H1 => tb σ H1 fun y H2 => tPairs r σ H2 fun ps H3 => Q ((x, y) :: ps) H3) : tPairs ((ta, tb) :: r) σ H Q := h
theorem g_pairs {R : List (Key × V) → Prop} {ps : List (V × V)} (kvs : List (Key × V)) (hd : H p = some (.dK [])) (e : ps = kvs.map (fun kv => (kV kv.1, kv.2))) (hl : kvs.length ≤ 15) (q : R kvs) : H p = some (.dK []) ∧ ∃ kvs : List (Key × V), ps = kvs.map (fun kv => (kV kv.1, kv.2)) ∧ kvs.length ≤ 15 ∧ R kvs := ⟨hd, kvs, e, hl, q⟩
theorem g_get2 (h : ta σ H fun x H1 => ∃ a, x = .ref a ∧ IsD H1 a ∧ tb σ H1 fun y H2 => tc σ H2 fun z H3 => ∃ o, DGet H3 a y o ∧ Q (o.getD z) H3) : tDGet2 ta tb tc σ H Q := h
theorem g_isd {R : Addr → Prop} {kvs : List (Key × V)} (h : H p = some (.dK kvs)) (q : R p) : ∃ a, V.ref p = .ref a ∧ IsD H a ∧ R a := ⟨p, rfl, .inl ⟨kvs, .of h⟩, q⟩
theorem g_dget {R : Option V → Prop} {kvs : List (Key × V)} {k : Key} (h : H p = some (.dK kvs)) (e : x = kV k) (q : R (valV kvs k)) : ∃ o, DGet H p x o ∧ R o := ⟨_, .inl ⟨kvs, k, .of h, e, rfl⟩, q⟩
theorem g_bm {T : String} {r : V → List V → Hp → VK → Prop} {to : TE} {t : TA} (h : to σ H fun x H1 => tyV K T x H1 ∧ t σ H1 fun xs H2 => r x xs H2 Q) : tBM K T r to t σ H Q := h
theorem g_bm0 {T : String} {r : V → List V → Hp → VK → Prop} {to : TE} (h : to σ H fun x H1 => tyV K T x H1 ∧ r x [] H1 Q) : tBM0 K T r to σ H Q := h
theorem g_tyl {R : Prop} (h : SqL K H a xs) (q : R) : tyV K "list" (.ref a) H ∧ R := ⟨.inl ⟨rfl, xs, h⟩, q⟩
theorem g_m1 {r : V → List V → Hp → VK → Prop} {to te : TE} (h : to σ H fun x H1 => (∃ a, x = .str a) ∧ te σ H1 fun y H2 => r x [y] H2 Q) : tM1 r to te σ H Q := h
theorem g_isstr {R : Prop} (q : R) : (∃ a, V.str s = .str a) ∧ R := ⟨⟨s, rfl⟩, q⟩
/-- the operators by kinds -/
theorem g_addI (q : Q (.int (i + j)) H) : rAddG K (.int i) (.int j) H Q := .inl ⟨i, j, rfl, rfl, q⟩
theorem g_addS (hl : s.length + z.length ≤ sizeLine) (q : Q (.str (s ++ z)) H) : rAddG K (.str s) (.str z) H Q := .inr (.inl ⟨s, z, rfl, rfl, hl, q⟩)
theorem g_addL (h1 : H a = some (.lst xs)) (h2 : H b = some (.lst ys)) (hl : xs.length + ys.length ≤ sizeLine) (q : New H (.lst (xs ++ ys)) fun p H' => Q (.ref p) H') : rAddG K (.ref a) (.ref b) H Q := .inr (.inr (.inl ⟨a, b, xs, ys, rfl, rfl, h1, h2, hl, q⟩))
theorem g_subI (q : Q (.int (i - j)) H) : rSubG (.int i) (.int j) H Q := ⟨i, j, rfl, rfl, q⟩
theorem g_mulI (hc : CMul i j) (q : Q (.int (i * j)) H) : rMulG (.int i) (.int j) H Q := .inl ⟨i, j, rfl, rfl, hc, q⟩
theorem g_divI (hc : CDivW i j) (q : Q (.int (i / j)) H) : rDivG (.int i) (.int j) H Q := ⟨i, j, rfl, rfl, hc, q⟩
theorem g_modI (hc : 0 < j) (q : Q (.int (i % j)) H) : rModG (.int i) (.int j) H Q := ⟨i, j, rfl, rfl, hc, q⟩
theorem g_powI (hc : CPow i j) (q : Q (.int (i ^ j.toNat)) H) : rPowG (.int i) (.int j) H Q := ⟨i, j, rfl, rfl, hc, q⟩
theorem g_ltI (q : Q (.bl (decide (i < j))) H) : rLtG (.int i) (.int j) H Q := ⟨i, j, rfl, rfl, q⟩
theorem g_leI (q : Q (.bl (decide (i ≤ j))) H) : rLeG (.int i) (.int j) H Q := ⟨i, j, rfl, rfl, q⟩
theorem g_gtI (q : Q (.bl (decide (j < i))) H) : rGtG (.int i) (.int j) H Q := ⟨i, j, rfl, rfl, q⟩
theorem g_geI (q : Q (.bl (decide (j ≤ i))) H) : rGeG (.int i) (.int j) H Q := ⟨i, j, rfl, rfl, q⟩
theorem g_eqI (q : Q (.bl (decide (i = j))) H) : rEqG K (.int i) (.int j) H Q := .inl ⟨rfl, by rw [show decide (V.int i = V.int j) = decide (i = j) from by simp]; exact q⟩
theorem g_eqS (q : Q (.bl (decide (s = z))) H) : rEqG K (.str s) (.str z) H Q := .inl ⟨rfl, by rw [show decide (V.str s = V.str z) = decide (s = z) from by simp]; exact q⟩
theorem g_neI (q : Q (.bl (!decide (i = j))) H) : rNeG K (.int i) (.int j) H Q := .inl ⟨rfl, by rw [show decide (V.int i = V.int j) = decide (i = j) from by simp]; exact q⟩
theorem g_neS (q : Q (.bl (!decide (s = z))) H) : rNeG K (.str s) (.str z) H Q := .inl ⟨rfl, by rw [show decide (V.str s = V.str z) = decide (s = z) from by simp]; exact q⟩
theorem g_neD {d e : PyData} (h1 : Dp K H x d) (h2 : Dp K H y e) (h3 : SeqAt.shaped d = true) (h4 : SeqAt.shaped e = true) (q : Q (.bl (!PyData.eqv d e)) H) : rNeG K x y H Q := .inr (.inl ⟨d, e, h1, h2, h3, h4, q⟩)
theorem g_ixL (h : SqL K H p xs) (e : atI xs i = some v) (q : Q v H) : rIxG K w (.ref p) (.int i) H Q := .inl (.inl ⟨p, xs, i, v, rfl, rfl, h, e, q⟩)
theorem g_ixT (h : SqT K H p xs) (e : atI xs i = some v) (q : Q v H) : rIxG K w (.ref p) (.int i) H Q := .inl (.inr (.inl ⟨p, xs, i, v, rfl, rfl, h, e, q⟩))
theorem g_ixS {c : Nat} (hl : s.length ≤ sizeLine) (e : atI s.cps.toList i = some c) (q : Q (.str ⟨#[c]⟩) H) : rIxG K w (.str s) (.int i) H Q := .inl (.inr (.inr ⟨s, i, c, rfl, rfl, hl, e, q⟩))
theorem g_ixD {kvs : List (Key × V)} {k : Key} (h : H p = some (.dK kvs)) (hx : x = kV k) (e : valV kvs k = some v) (q : Q v H) : rIxG K w (.ref p) x H Q := .inr (.inl ⟨p, v, rfl, .inl ⟨kvs, k, .of h, hx, e.symm⟩, q⟩)
theorem g_setL {R : Hp → Prop} {k : Nat} (h : H p = some (.lst xs)) (e : ixN xs.length i = some k) (q : Put H p (.lst (xs.set k v)) R) : rSetG (.ref p) (.int i) v H R := .inl ⟨p, xs, i, k, rfl, rfl, h, e, q⟩
theorem g_lenL (h : SqL K H p xs) (q : Q (.int xs.length) H) : rLenG K [.ref p] H Q := .inl ⟨.ref p, xs.length, rfl, .inl ⟨xs, h, rfl⟩, q⟩
theorem g_lenT (h : SqT K H p xs) (q : Q (.int xs.length) H) : rLenG K [.ref p] H Q := .inl ⟨.ref p, xs.length, rfl, .inr ⟨xs, h, rfl⟩, q⟩
theorem g_lenS (h : s.length ≤ sizeLine) (q : Q (.int s.length) H) : rLenG K [.str s] H Q := .inl ⟨.str s, s.length, rfl, ⟨h, rfl⟩, q⟩
theorem g_abs (q : Q (.int i.natAbs) H) : rAbsG [.int i] H Q := ⟨i, rfl, by rw [show (if i < 0 then -i else i) = (i.natAbs : Int) from by split <;> omega]; exact q⟩
theorem g_max2 (q : Q (.int (max i j)) H) : rMax2 [.int i, .int j] H Q := ⟨i, j, rfl, by rw [show (if j > i then j else i) = max i j from by split <;> omega]; exact q⟩
theorem g_min2 (q : Q (.int (min i j)) H) : rMin2 [.int i, .int j] H Q := ⟨i, j, rfl, by rw [show (if j < i then j else i) = min i j from by split <;> omega]; exact q⟩
theorem g_intI (q : Q (.int i) H) : rIntG [.int i] H Q := .inl ⟨i, rfl, q⟩
theorem g_intB {k : Bool} (q : Q (.int (if k then 1 else 0)) H) : rIntG [.bl k] H Q := .inr ⟨k, rfl, q⟩
theorem g_listL (h : SqL K H p xs) (q : New H (.lst xs) fun l H' => Q (.ref l) H') : rListG K [.ref p] H Q := .inl ⟨p, xs, rfl, .inl h, q⟩
theorem g_listT (h : SqT K H p xs) (q : New H (.lst xs) fun l H' => Q (.ref l) H') : rListG K [.ref p] H Q := .inl ⟨p, xs, rfl, .inr h, q⟩
theorem g_tupleL (h : SqL K H p xs) (q : New H (.tup xs) fun l H' => Q (.ref l) H') : rTupleG K [.ref p] H Q := ⟨p, xs, rfl, .inl ⟨h, q⟩⟩
theorem g_tupleT (h : SqT K H p xs) (q : Q (.ref p) H) : rTupleG K [.ref p] H Q := ⟨p, xs, rfl, .inr ⟨h, q⟩⟩
theorem g_append (h : H a = some (.lst xs)) (hl : xs.length < sizeLine) (q : Put H a (.lst (xs ++ [v])) fun H' => Q .non H') : rAppendG (.ref a) [v] H Q := ⟨a, xs, v, rfl, rfl, h, hl, q⟩
theorem g_extend (h : H a = some (.lst xs)) (h2 : H b = some (.lst ys)) (hl : xs.length + ys.length ≤ sizeLine) (q : Put H a (.lst (xs ++ ys)) fun H' => Q .non H') : rExtendG (.ref a) [.ref b] H Q := ⟨a, b, xs, ys, rfl, rfl, h, h2, hl, q⟩
theorem g_pop (h : H a = some (.lst (xs ++ [v]))) (q : Put H a (.lst xs) fun H' => Q v H') : rPopG (.ref a) [] H Q := ⟨a, xs ++ [v], v, rfl, rfl, h, by simp, by simpa using q⟩
/-- a common rest of several ways -/
structure Rest (B : Prop) : Prop where
  out : B
theorem g_cut {A B : Prop} (f : Rest B → A) (b : B) : A := f ⟨b⟩
/-- the slices -/
theorem g_sl {r : V → Option Int → Option Int → Hp → VK → Prop} {tl th : TO} (h : te σ H fun x H1 => tl σ H1 fun l H2 => th σ H2 fun u H3 => r x l u H3 Q) : tSl r te tl th σ H Q := h
theorem g_nopart {Q : Option Int → Hp → Prop} (q : Q none H) : tNoPart σ H Q := q
theorem g_part {Q : Option Int → Hp → Prop} (h : te σ H fun x H1 => ∃ i, x = .int i ∧ Q (some i) H1) : tPart te σ H Q := h
theorem g_ispart {R : Int → Prop} (q : R i) : ∃ i', V.int i = .int i' ∧ R i' := ⟨i, rfl, q⟩
theorem g_slL {lo hi : Option Int} (h : SqL K H p xs) (q : New H (.lst (cutV xs lo hi)) fun l H' => Q (.ref l) H') : rSlG K (.ref p) lo hi H Q := .inl ⟨p, xs, rfl, h, q⟩
theorem g_slT {lo hi : Option Int} (h : SqT K H p xs) (hw : ¬ (HT.sIx xs.length 0 lo = 0 ∧ HT.sIx xs.length xs.length hi = xs.length)) (q : New H (.tup (cutV xs lo hi)) fun l H' => Q (.ref l) H') : rSlG K (.ref p) lo hi H Q :=
  .inr (.inl ⟨p, xs, rfl, h, fun e => absurd e hw, fun _ => q⟩)
theorem g_slS {lo hi : Option Int} (hl : s.length ≤ sizeLine) (q : Q (.str (cutS s lo hi)) H) : rSlG K (.str s) lo hi H Q := .inr (.inr ⟨s, rfl, hl, q⟩)
theorem g_rev (h : ta σ H fun x H1 => ∃ a xs, x = .ref a ∧ SqL K H1 a xs ∧ New H1 (.lst xs.reverse) fun p H' => Q (.ref p) H') : tRevG K ta σ H Q := h
theorem g_revL {R : List V → Prop} (h : SqL K H a xs) (q : R xs) : ∃ a' xs, V.ref a = .ref a' ∧ SqL K H a' xs ∧ R xs := ⟨a, xs, rfl, h, q⟩
/-- tests -/
theorem g_T {A B : Prop} {b : Bool} (hb : b = true) (h : A) : if b = true then A else B := by rw [if_pos hb]; exact h
theorem g_F {A B : Prop} {b : Bool} (hb : b = false) (h : B) : if b = true then A else B := by rw [if_neg (by rw [hb]; decide)]; exact h
theorem g_ite {A B : Prop} {b : Bool} (h1 : b = true → A) (h2 : b = false → B) : if b = true then A else B := by
  cases b
  · exact h2 rfl
  · exact h1 rfl
end

section
variable {K : PySem.W.Frag} {w : World} {H : Hp} {v : V} {i j : Int} {p a b : Addr} {xs ys : List V} {Q : VK}
theorem Chg.refl : Chg p H H := fun _ _ _ e => e
theorem Chg.trans {H1 H2 : Hp} (h : Chg p H H1) (h' : Chg p H1 H2) : Chg p H H2 := fun b o n e => h' b o n (h b o n e)
theorem Chg.same {H1 : Hp} (h : Same H H1) : Chg p H H1 := fun b o _ e => h b o e
/-- changes at a new object are none of the old ones -/
theorem Same.chg {H1 H2 : Hp} (h : Same H H1) (hp : H p = none) (c : Chg p H1 H2) : Same H H2 := fun b o e => c b o (ne_of_none e hp) (h b o e)
theorem atI_of {α : Type} {xs : List α} {i : Int} {v : α} (h0 : 0 ≤ i) (h : xs[i.toNat]? = some v) : atI xs i = some v := by
  have := atI_nat h
  rwa [Int.toNat_of_nonneg h0] at this
theorem atI_in {α : Type} {xs : List α} {i : Int} (h0 : 0 ≤ i) (h1 : i < xs.length) : ∃ v, atI xs i = some v ∧ v ∈ xs ∧ xs[i.toNat]? = some v := by
  have h2 : i.toNat < xs.length := by omega
  exact ⟨xs[i.toNat], atI_of h0 (List.getElem?_eq_getElem h2), List.getElem_mem h2, List.getElem?_eq_getElem h2⟩
end
/-! ### loops and comprehensions, by what holds at their turns -/
section
variable {K : PySem.W.Frag} {w : World} {H : Hp} {Q : VK} {p : Addr} {ss : List Str} {k : Str}
theorem inV_str : ∀ ss : List Str, inV (.str k) (ss.map V.str) = decide (k ∈ ss)
  | [] => by simp [inV]
  | s :: ss => by
    have ih := inV_str ss
    unfold inV at ih ⊢
    rw [List.map_cons, List.any_cons, ih]
    show (s == k || decide (k ∈ ss)) = _
    by_cases e : s = k
    · subst e; simp
    · have e' : ¬ k = s := fun z => e z.symm
      rw [show (s == k) = false from by simp [e]]
      simp [e']
theorem flat_strs : ∀ ss : List Str, (ss.map V.str).all flatV = true
  | [] => rfl
  | s :: ss => by rw [List.map_cons, List.all_cons, flat_strs ss]; rfl
theorem g_inL (h : SqL K H p (ss.map V.str)) (q : Q (.bl (decide (k ∈ ss))) H) : rInG K w false (.str k) (.ref p) H Q :=
  .inl ⟨p, ss.map V.str, rfl, .inl h, rfl, flat_strs ss, by rw [inV_str]; exact q⟩
theorem g_notInL (h : SqL K H p (ss.map V.str)) (q : Q (.bl (!decide (k ∈ ss))) H) : rInG K w true (.str k) (.ref p) H Q :=
  .inl ⟨p, ss.map V.str, rfl, .inl h, rfl, flat_strs ss, by rw [inV_str]; exact q⟩
theorem g_isi {x : V} {a b : String} {r : Bool} (ty : TyOf K H x (.type a)) (h : kitB a b = some r) (q : Q (.bl r) H) : rIsiG K [x, .ty b] H Q := ⟨x, .ty b, .type a, .type b, r, rfl, .ty b, .base ty, kit_ty h, q⟩
end
/-! what is walked -/
section
variable {K : PySem.W.Frag} {te : TE} {ta : TA} {σ : L2.St} {H : Hp} {R : It → Hp → Prop} {n : Int} {p : Addr} {xs : List V} {x : Str}
theorem g_rng1 (h : ta σ H fun vs H1 => ∃ j : Int, vs = [.int j] ∧ -(2 ^ 62) ≤ j ∧ j < 2 ^ 62 ∧ R (Itr 0 j.toNat) H1) : iRng1 ta σ H R := h
theorem g_isrng {R : Int → Prop} (h1 : -(2 ^ 62) ≤ n) (h2 : n < 2 ^ 62) (q : R n) : ∃ j : Int, [V.int n] = [.int j] ∧ -(2 ^ 62) ≤ j ∧ j < 2 ^ 62 ∧ R j := ⟨n, rfl, h1, h2, q⟩
theorem g_seqL (h : te σ H fun x H1 => ∃ a, x = .ref a ∧ (∃ xs, SqL K H1 a xs) ∧ R (Itl K a) H1) : iSeq K te σ H R := .inl h
theorem g_seqT (h : te σ H fun x H1 => ∃ a, x = .ref a ∧ (∃ xs, SqT K H1 a xs) ∧ R (Itt K a) H1) : iSeq K te σ H R := .inr (.inl h)
theorem g_seqS (h : te σ H fun v H1 => ∃ x, v = .str x ∧ R (Its x) H1) : iSeq K te σ H R := .inr (.inr h)
theorem g_isL {R : Addr → Prop} (h : SqL K H p xs) (q : R p) : ∃ a, V.ref p = .ref a ∧ (∃ xs, SqL K H a xs) ∧ R a := ⟨p, rfl, ⟨xs, h⟩, q⟩
theorem g_isT {R : Addr → Prop} (h : SqT K H p xs) (q : R p) : ∃ a, V.ref p = .ref a ∧ (∃ xs, SqT K H a xs) ∧ R a := ⟨p, rfl, ⟨xs, h⟩, q⟩
theorem g_isS {R : Str → Prop} (q : R x) : ∃ y, V.str x = .str y ∧ R y := ⟨x, rfl, q⟩
def LcW (J : It) (g : TG) (tt : TT) (te : TE) (vs : List Nat) (σ : L2.St) (H1 : Hp) (D : Addr) (Qd : Hp → Prop) : Prop := ∃ W : Nat → Nat → Hp → Prop, (∃ m, W 0 m (upd H1 D (.lst []))) ∧ ∀ i m H, W i m H →
  (J.stop i H ∧ Qd H) ∨ (J.go i H ∧ ∃ Nx : Hp → Prop, (∀ H', Nx H' → ∃ m', m' < m ∧ W (i + 1) m' H') ∧ ∀ x H', J.yld i H x H' → g x (wipe σ vs) H' fun σ2 H2 => wipe σ2 vs = wipe σ vs ∧ tt σ2 H2 fun b H3 =>
    if b = true then te σ2 H3 fun y H4 => ∃ acc, H4 D = some (.lst acc) ∧ acc.length < sizeLine ∧ Nx (upd H4 D (.lst (acc ++ [y]))) else Nx H3)
def LcR (J : It) (g : TG) (tt : TT) (te : TE) (vs : List Nat) (σ : L2.St) (H1 : Hp) (R : Addr → Hp → Prop) : Prop := ∀ D, H1 D = none → LcW J g tt te vs σ H1 D (R D)
def ForW (J : It) (g : TG) (tb : TS) (D : Ends) (σ : L2.St) (H1 : Hp) : Prop := ∃ W : Nat → Nat → L2.St → Hp → Prop, (∃ m, W 0 m σ H1) ∧ ∀ i m σ H, W i m σ H →
  (J.stop i H ∧ D.nx σ H) ∨ (J.go i H ∧ ∃ N : L2.St → Hp → Prop, (∀ σ' H', N σ' H' → ∃ m', m' < m ∧ W (i + 1) m' σ' H') ∧ ∀ x H', J.yld i H x H' → g x σ H' fun σ2 H2 => tb { D with nx := N, ct := N, bk := D.nx } σ2 H2)
theorem g_lc {g : TG} {tt : TT} {vs : List Nat} {wi : TI} {Q : VK} (h : wi σ H fun J H1 => LcR J g tt te vs σ H1 fun D H => Q (.ref D) H) : tLc wi g tt te vs σ H Q := h
theorem g_for {g : TG} {wi : TI} {tb : TS} {D : Ends} (h : wi σ H fun J H1 => ForW J g tb D σ H1) : tFor wi g tb D σ H := h
theorem g_yes {Q : Bool → Hp → Prop} (q : Q true H) : tYes σ H Q := q
end
section
variable {J : It} {g : TG} {tb : TS} {D : Ends} {σ : L2.St} {H H1 : Hp} {tt : TT} {te : TE} {vs : List Nat} {d : Addr} {Qd : Hp → Prop}
theorem for_any (n : Nat) (Pv : Nat → L2.St → Hp → Prop) (h0 : Pv 0 σ H) (hgo : ∀ i σ H, i < n → Pv i σ H → J.go i H) (hstop : ∀ σ H, Pv n σ H → J.stop n H)
    (hs : ∀ i x σ H H', i < n → Pv i σ H → J.yld i H x H' → g x σ H' fun σ2 H2 => tb { D with nx := Pv (i + 1), ct := Pv (i + 1), bk := D.nx } σ2 H2) (hd : ∀ σ H, Pv n σ H → D.nx σ H) :
    ForW J g tb D σ H := by
  refine ⟨fun i m σ H => Pv i σ H ∧ i ≤ n ∧ m = n - i, ⟨n, h0, Nat.zero_le _, rfl⟩, fun i m σ H ⟨hp, hi, hm⟩ => ?_⟩
  by_cases hin : i = n
  · subst hin
    exact .inl ⟨hstop _ _ hp, hd _ _ hp⟩
  · have hlt : i < n := by omega
    exact .inr ⟨hgo _ _ _ hlt hp, Pv (i + 1), fun σ' H' h' => ⟨n - (i + 1), by omega, h', hlt, rfl⟩, fun x H' hy => hs i x σ H H' hlt hp hy⟩
/-- the list at d behind the i-th turn -/
def NxR (R : Nat → List V → Hp → Prop) (d : Addr) (i : Nat) (H : Hp) : Prop := ∃ acc, H d = some (.lst acc) ∧ acc.length ≤ i ∧ R i acc H
theorem lc_step {R : Nat → List V → Hp → Prop} {i : Nat} {acc : List V} {y : V} (h : H d = some (.lst acc)) (hl : acc.length ≤ i) (hi : i < sizeLine) (q : Put H d (.lst (acc ++ [y])) fun H5 => R (i + 1) (acc ++ [y]) H5) :
    ∃ acc, H d = some (.lst acc) ∧ acc.length < sizeLine ∧ NxR R d (i + 1) (upd H d (.lst (acc ++ [y]))) :=
  ⟨acc, h, Nat.lt_of_le_of_lt hl hi, acc ++ [y], upd_same, by rw [List.length_append, List.length_singleton]; omega, q.at⟩
theorem lc_any (n : Nat) (R : Nat → List V → Hp → Prop) (hD : H1 d = none) (h0 : ∀ H', H' d = some (.lst []) → Same H1 H' → R 0 [] H') (hgo : ∀ i acc H, i < n → R i acc H → J.go i H) (hstop : ∀ acc H, R n acc H → J.stop n H)
    (hs : ∀ i x acc H H', i < n → acc.length ≤ i → R i acc H → H d = some (.lst acc) → J.yld i H x H' → g x (wipe σ vs) H' fun σ2 H2 => wipe σ2 vs = wipe σ vs ∧ tt σ2 H2 fun b H3 =>
      if b = true then te σ2 H3 fun y H4 => ∃ acc, H4 d = some (.lst acc) ∧ acc.length < sizeLine ∧ NxR R d (i + 1) (upd H4 d (.lst (acc ++ [y]))) else NxR R d (i + 1) H3)
    (hd : ∀ acc H, H d = some (.lst acc) → R n acc H → Qd H) :
    LcW J g tt te vs σ H1 d Qd := by
  refine ⟨fun i m H => NxR R d i H ∧ i ≤ n ∧ m = n - i, ⟨n, ⟨[], upd_same, Nat.le_refl _, h0 _ upd_same (same_upd hD)⟩, Nat.zero_le _, rfl⟩, fun i m H ⟨⟨acc, ha, hl, hr⟩, hi, hm⟩ => ?_⟩
  by_cases hin : i = n
  · subst hin
    exact .inl ⟨hstop _ _ hr, hd _ _ ha hr⟩
  · have hlt : i < n := by omega
    exact .inr ⟨hgo _ _ _ hlt hr, NxR R d (i + 1), fun H' h' => ⟨n - (i + 1), by omega, h', hlt, rfl⟩, fun x H' hy => hs i x acc H H' hlt hl hr ha hy⟩
end

/-! ### data of tuples alone -/
mutual
inductive Tp (H : Hp) : V → PyData → Prop
  | non : Tp H .non .none
  | bl (b : Bool) : Tp H (.bl b) (.bool b)
  | int (i : Int) : Tp H (.int i) (.int i)
  | str (x : Str) : Tp H (.str x) (.str x)
  | tup {a : Addr} {xs : List V} {ds : List PyData} : H a = some (.tup xs) → Tps H xs ds → Tp H (.ref a) (.tuple ds)
inductive Tps (H : Hp) : List V → List PyData → Prop
  | nil : Tps H [] []
  | cons {v : V} {vs : List V} {d : PyData} {ds : List PyData} : Tp H v d → Tps H vs ds → Tps H (v :: vs) (d :: ds)
end
/-- the tuples stay -/
def Tk (H H' : Hp) : Prop := ∀ b xs, H b = some (.tup xs) → H' b = some (.tup xs)
theorem Tk.refl (H : Hp) : Tk H H := fun _ _ e => e
theorem Tk.trans {H H1 H2 : Hp} (a : Tk H H1) (b : Tk H1 H2) : Tk H H2 := fun c xs e => b c xs (a c xs e)
theorem Same.tk {H H' : Hp} (s : Same H H') : Tk H H' := fun b xs e => s b _ e
theorem Chg.tk {H H' : Hp} {a : Addr} (c : Chg a H H') (h : ∀ xs, H a ≠ some (.tup xs)) : Tk H H' := fun b xs e => c b _ (fun z => h xs (z ▸ e)) e
theorem Chg.tkl {H H' : Hp} {a : Addr} {ys : List V} (c : Chg a H H') (h : H a = some (.lst ys)) : Tk H H' := c.tk fun xs e => by rw [h] at e; cases e
mutual
theorem Tp.mono {H H' : Hp} (k : Tk H H') : ∀ {d : PyData} {v : V}, Tp H v d → Tp H' v d
  | .none, _, h => by cases h; exact .non
  | .bool b, _, h => by cases h; exact .bl b
  | .int i, _, h => by cases h; exact .int i
  | .str x, _, h => by cases h; exact .str x
  | .tuple ds, _, h => by
    cases h with
    | tup e r => exact .tup (k _ _ e) (Tps.mono k r)
  | .list ds, _, h => by cases h
  | .dict ds, _, h => by cases h
theorem Tps.mono {H H' : Hp} (k : Tk H H') : ∀ {ds : List PyData} {vs : List V}, Tps H vs ds → Tps H' vs ds
  | [], _, h => by cases h; exact .nil
  | d :: ds, _, h => by
    cases h with
    | cons a b => exact .cons (Tp.mono k a) (Tps.mono k b)
end
mutual
theorem Tp.dp {K : PySem.W.Frag} {H : Hp} : ∀ {d : PyData} {v : V}, Tp H v d → Dp K H v d
  | .none, _, h => by cases h; exact .non
  | .bool b, _, h => by cases h; exact .bl b
  | .int i, _, h => by cases h; exact .int i
  | .str x, _, h => by cases h; exact .str x
  | .tuple ds, _, h => by
    cases h with
    | tup e r => exact .tup (.of e) (Tps.dp r)
  | .list ds, _, h => by cases h
  | .dict ds, _, h => by cases h
theorem Tps.dp {K : PySem.W.Frag} {H : Hp} : ∀ {ds : List PyData} {vs : List V}, Tps H vs ds → DpAll K H vs ds
  | [], _, h => by cases h; exact .nil
  | d :: ds, _, h => by
    cases h with
    | cons a b => exact .cons (Tp.dp a) (Tps.dp b)
end
section
variable {H : Hp} {xs ys : List V} {ds es : List PyData} {v : V} {d : PyData}
theorem Tps.length : ∀ {xs : List V} {ds : List PyData}, Tps H xs ds → xs.length = ds.length
  | [], _, h => by cases h; rfl
  | x :: xs, _, h => by
    cases h with
    | cons a b => rw [List.length_cons, List.length_cons, Tps.length b]
theorem Tps.append : ∀ {xs : List V} {ds : List PyData}, Tps H xs ds → Tps H ys es → Tps H (xs ++ ys) (ds ++ es)
  | [], _, h, h2 => by cases h; exact h2
  | x :: xs, _, h, h2 => by
    cases h with
    | cons a b => exact .cons a (Tps.append b h2)
theorem Tps.one (h : Tp H v d) : Tps H [v] [d] := .cons h .nil
theorem Tps.get : ∀ {xs : List V} {ds : List PyData} {i : Nat} {v : V}, Tps H xs ds → xs[i]? = some v → ∃ d, ds[i]? = some d ∧ Tp H v d
  | [], _, i, v, _, e => by simp at e
  | x :: xs, _, 0, v, h, e => by
    cases h with
    | cons a b =>
      simp only [List.getElem?_cons_zero, Option.some.injEq] at e
      subst e
      exact ⟨_, rfl, a⟩
  | x :: xs, _, i + 1, v, h, e => by
    cases h with
    | cons a b =>
      rw [List.getElem?_cons_succ] at e
      obtain ⟨d, h1, h2⟩ := Tps.get b e
      exact ⟨d, by rw [List.getElem?_cons_succ]; exact h1, h2⟩
theorem Tps.at : ∀ {xs : List V} {ds : List PyData} {i : Nat} {d : PyData}, Tps H xs ds → ds[i]? = some d → ∃ v, xs[i]? = some v ∧ Tp H v d
  | xs, [], i, d, _, e => by simp at e
  | _, d0 :: ds, 0, d, h, e => by
    cases h with
    | cons a b =>
      simp only [List.getElem?_cons_zero, Option.some.injEq] at e
      subst e
      exact ⟨_, rfl, a⟩
  | _, d0 :: ds, i + 1, d, h, e => by
    cases h with
    | cons a b =>
      rw [List.getElem?_cons_succ] at e
      obtain ⟨v, h1, h2⟩ := Tps.at b e
      exact ⟨v, by rw [List.getElem?_cons_succ]; exact h1, h2⟩
theorem Tps.take : ∀ {xs : List V} {ds : List PyData} (n : Nat), Tps H xs ds → Tps H (xs.take n) (ds.take n)
  | _, _, 0, _ => .nil
  | [], _, n + 1, h => by cases h; exact .nil
  | x :: xs, _, n + 1, h => by
    cases h with
    | cons a b => exact .cons a (Tps.take n b)
theorem Tps.drop : ∀ {xs : List V} {ds : List PyData} (n : Nat), Tps H xs ds → Tps H (xs.drop n) (ds.drop n)
  | _, _, 0, h => h
  | [], _, n + 1, h => by cases h; exact .nil
  | x :: xs, _, n + 1, h => by
    cases h with
    | cons a b => exact Tps.drop n b
theorem Tps.reverse : ∀ {xs : List V} {ds : List PyData}, Tps H xs ds → Tps H xs.reverse ds.reverse
  | [], _, h => by cases h; exact .nil
  | x :: xs, _, h => by
    cases h with
    | cons a b =>
      rw [List.reverse_cons, List.reverse_cons]
      exact Tps.append (Tps.reverse b) (.one a)
theorem Tps.strs : ∀ ss : List Str, Tps H (ss.map V.str) (ss.map PyData.str)
  | [] => .nil
  | s :: ss => .cons (.str s) (Tps.strs ss)
end
def isName (s : Str) : Prop := 1 ≤ s.length ∧ s.length ≤ 8 ∧ ∀ c ∈ s.cps.toList, 97 ≤ c ∧ c < 123
/-! ### parts -/
inductive K1 | left | right
  deriving DecidableEq
def K1.word : K1 → Str
  | .left => "left"
  | .right => "right"
inductive K2 | give | plus | less | times | below | pair
  deriving DecidableEq
def K2.word : K2 → Str
  | .give => "give"
  | .plus => "plus"
  | .less => "less"
  | .times => "times"
  | .below => "below"
  | .pair => "pair"
mutual
inductive Part
  | num (n : Int) | name (x : Str) | fn (f : Str) | one (k : K1) (a : Part) | two (k : K2) (a b : Part) | whn (a b c : Part) | letp (r : Rows) (a : Part) | shut (a : Part)
inductive Rows
  | nil | cons (x : Str) (a : Part) (r : Rows)
end
mutual
def Part.data : Part → PyData
  | .num n => .tuple [.str "number", .int n]
  | .name x => .tuple [.str "name", .str x]
  | .fn f => .tuple [.str "fun", .str f]
  | .one k a => .tuple [.str k.word, a.data]
  | .two k a b => .tuple [.str k.word, a.data, b.data]
  | .whn a b c => .tuple [.str "when", a.data, b.data, c.data]
  | .letp r a => .tuple [.str "let", .tuple r.datas, a.data]
  | .shut a => .tuple [.str "shut", a.data]
def Rows.datas : Rows → List PyData
  | .nil => []
  | .cons x a r => .tuple [.str x, a.data] :: r.datas
end
mutual
/-- how many parts -/
def Part.size : Part → Nat
  | .num _ => 1
  | .name _ => 1
  | .fn _ => 1
  | .one _ a => 1 + a.size
  | .two _ a b => 1 + (a.size + b.size)
  | .whn a b c => 1 + (a.size + (b.size + c.size))
  | .letp r a => 1 + (r.size + a.size)
  | .shut _ => 1
def Rows.size : Rows → Nat
  | .nil => 0
  | .cons _ a r => a.size + r.size
end
mutual
def Part.deep : Part → Nat
  | .num _ => 1
  | .name _ => 1
  | .fn _ => 1
  | .one _ a => 1 + a.deep
  | .two _ a b => 1 + max a.deep b.deep
  | .whn a b c => 1 + max a.deep (max b.deep c.deep)
  | .letp r a => 1 + max r.deep a.deep
  | .shut _ => 1
def Rows.deep : Rows → Nat
  | .nil => 0
  | .cons _ a r => max a.deep r.deep
end
def Rows.names : Rows → List Str
  | .nil => []
  | .cons x _ r => x :: r.names
def Rows.parts : Rows → List Part
  | .nil => []
  | .cons _ a r => a :: r.parts
def Rows.app : Rows → Rows → Rows
  | .nil, s => s
  | .cons x a r, s => .cons x a (r.app s)
def Part.kids : Part → List Part
  | .num _ => []
  | .name _ => []
  | .fn _ => []
  | .one _ a => [a]
  | .two _ a b => [a, b]
  | .whn a b c => [a, b, c]
  | .letp r a => r.parts ++ [a]
  | .shut _ => []
mutual
/-- the names of the rows of all lets, in the order of places -/
def Part.rowNames : Part → List Str
  | .num _ => []
  | .name _ => []
  | .fn _ => []
  | .one _ a => a.rowNames
  | .two _ a b => a.rowNames ++ b.rowNames
  | .whn a b c => a.rowNames ++ (b.rowNames ++ c.rowNames)
  | .letp r a => r.names ++ (r.rowNames ++ a.rowNames)
  | .shut _ => []
def Rows.rowNames : Rows → List Str
  | .nil => []
  | .cons _ a r => a.rowNames ++ r.rowNames
end
mutual
/-- a part of a program: names in scope, funs there, small numbers, one to four rows -/
def Part.ok (fs : List Str) : List Str → Part → Prop
  | sc, .num n => n.natAbs < 10 ^ 60
  | sc, .name x => x ∈ sc ∧ isName x
  | sc, .fn f => f ∈ fs ∧ isName f
  | sc, .one _ a => a.ok fs sc
  | sc, .two _ a b => a.ok fs sc ∧ b.ok fs sc
  | sc, .whn a b c => a.ok fs sc ∧ b.ok fs sc ∧ c.ok fs sc
  | sc, .letp r a => r.names.length ≤ 4 ∧ r.names ≠ [] ∧ (∀ x ∈ r.names, isName x) ∧ r.ok fs (sc ++ r.names) ∧ a.ok fs (sc ++ r.names)
  | _, .shut _ => False
def Rows.ok (fs : List Str) : List Str → Rows → Prop
  | _, .nil => True
  | sc, .cons _ a r => a.ok fs sc ∧ r.ok fs sc
end
theorem Rows.app_datas : ∀ r s : Rows, (r.app s).datas = r.datas ++ s.datas
  | .nil, s => rfl
  | .cons x a r, s => by
    show _ :: (r.app s).datas = _
    rw [Rows.app_datas r s]
    rfl
theorem Rows.app_ok {fs : List Str} : ∀ {sc : List Str} {r s : Rows}, r.ok fs sc → s.ok fs sc → (r.app s).ok fs sc
  | sc, .nil, s, _, h => h
  | sc, .cons x a r, s, h, h2 => ⟨h.1, Rows.app_ok h.2 h2⟩

/-! ### written tables, from what the top has left -/
theorem keys_miss {P : Params} {z : Str} : ∀ {l : List DictEntry} {ks : List Str}, l.map He.keyOf = He.keysIn P ks → z ∉ ks → l.find? (·.key.isStr z) = none ∧ l.any (·.refKey) = false
  | [], _, _, _ => ⟨rfl, rfl⟩
  | e :: r, [], h, _ => by cases h
  | e :: r, k :: ks, h, hz => by
    have h1 : He.keyOf e :: r.map He.keyOf = some (k, PyData.keyHash P k) :: He.keysIn P ks := h
    injection h1 with h2 h3
    obtain ⟨i1, i2⟩ := keys_miss h3 fun m => hz (List.mem_cons_of_mem _ m)
    unfold He.keyOf at h2
    split at h2
    · rename_i x t q
      obtain ⟨h5, h6⟩ := Prod.mk.inj (Option.some.inj h2)
      have hne : ¬ x = z := fun e => hz (by rw [← e, h5]; exact List.mem_cons_self ..)
      refine ⟨?_, ?_⟩
      · rw [List.find?_cons, show e.key.isStr z = false from by rw [q, PySem.W.isStr_of]; show (x == z) = false; simp [hne]]
        exact i1
      · rw [List.any_cons, i2, Bool.or_false]
        unfold DictEntry.refKey
        rw [q]
    · cases h2
theorem ktab_of {K : PySem.W.Frag} {w : World} {a : Addr} {kvs : List (Str × He.Dv)} (h : He.dicW K a = some (He.keysIn w.params (kvs.map (·.1)))) (hv : He.valsB K a kvs = true) : KTab K w a (kvs.map fun q => (q.1, q.2.v K)) := by
  intro z
  obtain ⟨es, n, D⟩ := He.dicW_ok h
  refine ⟨es, n, D, ?_⟩
  by_cases hz : z ∈ kvs.map (·.1)
  · right
    obtain ⟨q0, hq0, rfl⟩ := List.mem_map.mp hz
    cases hf : kvs.find? (fun q => decide (q.1 = q0.1)) with
    | none =>
      have := List.find?_eq_none.mp hf q0 hq0
      simp at this
    | some q =>
      have hq := List.mem_of_find?_eq_some hf
      have hqe := List.find?_some hf
      have hqe := of_decide_eq_true hqe
      obtain ⟨u, h1, h2⟩ := He.valsB_ok hv hq
      refine ⟨u, q.2.v K, ?_, by rw [← hqe]; exact h1, h2⟩
      rw [List.find?_map]
      show Option.map _ (Option.map _ (kvs.find? fun q => decide (q.1 = q0.1))) = _
      rw [hf]
      rfl
  · left
    have hl : es.toList.map He.keyOf = He.keysIn w.params (kvs.map (·.1)) := by
      unfold He.dicW at h
      rw [D.at_] at h
      dsimp only at h
      split at h
      · exact Option.some.inj h
      · cases h
    obtain ⟨i1, i2⟩ := keys_miss hl hz
    refine ⟨?_, ?_⟩
    · rw [List.find?_map]
      show Option.map _ (Option.map _ (kvs.find? fun q => decide (q.1 = z))) = _
      rw [show kvs.find? (fun q => decide (q.1 = z)) = none from List.find?_eq_none.mpr fun q hq e => hz (by rw [← of_decide_eq_true e]; exact List.mem_map.mpr ⟨q, hq, rfl⟩)]
      rfl
    · unfold PySem.W.nsIn
      rw [D.at_]
      dsimp only
      rw [i1]
      dsimp only
      rw [i2]
      rfl
theorem tab_at {fa : List He.Fa} {fn : List He.DefD} {ts : List He.Tab} {w : World} {K : PySem.W.Frag} (c : He.SaysT fa fn ts w K) (i : Nat) {t : He.Tab} (h : ts[i]? = some t) : He.dicW K (t.1 K) = some (He.keysIn w.params t.2) := by
  have e : ts.map (fun t => He.dicW K (t.1 K)) = ts.map fun t => some (He.keysIn w.params t.2) := congrArg (fun z : He.AlT => z.2) c
  have e2 : (ts.map fun t => He.dicW K (t.1 K))[i]? = (ts.map fun t => some (He.keysIn w.params t.2))[i]? := by rw [e]
  rw [List.getElem?_map, List.getElem?_map, h] at e2
  exact Option.some.inj e2

/-! ### more methods of lists -/
section
variable {X : Cx}
def rClearG : V → List V → Hp → VK → Prop := fun x vs H Q => ∃ l xs, x = .ref l ∧ vs = [] ∧ H l = some (.lst xs) ∧ Put H l (.lst []) fun H' => Q .non H'
/-! dicts: a copy, a clearing -/
def rDClearG : V → List V → Hp → VK → Prop := fun x vs H Q => ∃ (a : Addr) (kvs : List (Key × V)), x = .ref a ∧ vs = [] ∧ H a = some (.dK kvs) ∧ Put H a (.dK []) fun H' => Q .non H'
def rDictG : List V → Hp → VK → Prop := fun xs H Q => ∃ (a : Addr) (kvs : List (Key × V)), xs = [.ref a] ∧ H a = some (.dK kvs) ∧ New H (.dK kvs) fun p H' => Q (.ref p) H'
/-- a list so many times -/
def rRepG : R2 := fun x y H Q => ∃ l k xs, x = .ref l ∧ y = .int k ∧ H l = some (.lst xs) ∧ -(2 ^ 63) ≤ k ∧ k < 2 ^ 63 ∧ xs.length * k.toNat ≤ sizeLine ∧ New H (.lst (List.replicate k.toNat xs).flatten) fun p H' => Q (.ref p) H'
theorem op_repG : OpR X (binaryOp .Mult) rRepG := opr_imp op_rep fun x y H Q ⟨l, k, xs, e1, e2, h, h1, h2, h3, n⟩ => ⟨l, k, xs, e1, e2, h, h1, h2, h3, n.at⟩
/-- a statement that is never come to -/
def tNever : TS := fun _ _ _ => False
/-- dict(l) of a list of pairs -/
def rDictP (K : PySem.W.Frag) : List V → Hp → VK → Prop := fun xs H Q => ∃ (a : Addr) (ps : List Addr) (kvs : List (Key × V)), xs = [.ref a] ∧ SqL K H a (ps.map V.ref) ∧ Paired (fun p kv => SqT K H p [kV kv.1, kv.2]) ps kvs ∧ New H (.dK (mergeK [] kvs)) fun p H' => Q (.ref p) H'
end
section
variable {K : PySem.W.Frag} {w : World} {H : Hp} {Q : VK} {a : Addr} {xs : List V} {ss : List Str} {k : Str} {j : Nat} {R : It → Hp → Prop} {σ : L2.St} {ta : TA}
theorem g_enum (h : ta σ H fun vs H1 => ∃ a xs, vs = [.ref a] ∧ SqL K H1 a xs ∧ R (Ite K a) H1) : iEnum K ta σ H R := h
end

/-! ### what is known of a heap, from the heaps ahead -/
section
variable {H H1 H' : Hp} {a b d p : Addr} {o : HO} {xs ys : List V}
theorem Same.to (s : Same H H') (h : H b = some o) : H' b = some o := s b o h
theorem Chg.to (c : Chg a H H') (h : H b = some o) (n : b ≠ a) : H' b = some o := c b o n h
theorem Tk.to (k : Tk H H') (h : H b = some (.tup xs)) : H' b = some (.tup xs) := k b xs h
/-- nothing is at p (a word of its own, so that it is found by its heap) -/
def Fr (H : Hp) (p : Addr) : Prop := H p = none
theorem ne_fr (h : H b = some o) (h' : Fr H a) : b ≠ a := ne_of_none h h'
theorem New.mk {R : Addr → Hp → Prop} (h : ∀ p H', Fr H p → H' p = some o → Same H H' → R p H') : New H o R := h
theorem Put.mk {R : Hp → Prop} (h : ∀ H', H' a = some o → Chg a H H' → R H') : Put H a o R := h
theorem Chg.free (c : Chg a H H') (n : b ≠ a) (h : H' b = none) : H b = none := by
  cases e : H b with
  | none => rfl
  | some o => rw [c b o n e] at h; cases h
theorem Chg.fresh (i : Chg p H H1) (hd : H d = none) (c : Chg d H1 H') : Chg p H H' := fun b o hb e => c b o (ne_of_none e hd) (i b o hb e)
theorem Tk.same (i : Tk H H1) (s : Same H1 H') : Tk H H' := i.trans (Same.tk s)
theorem Tk.lst (i : Tk H H1) (c : Chg a H1 H') (h : H1 a = some (.lst ys)) : Tk H H' := i.trans (c.tkl h)
theorem Tk.dct {kvs : List (Key × V)} (i : Tk H H1) (c : Chg a H1 H') (h : H1 a = some (.dK kvs)) : Tk H H' := i.trans (c.tk fun xs e => by rw [h] at e; cases e)
theorem Same.more (i : Same H H1) (s : Same H1 H') : Same H H' := i.trans s
theorem Same.more2 (i : Same H H1) (c : Chg d H1 H') (h : H d = none) : Same H H' := Same.chg i h c
theorem Tp.to {v : V} {e : PyData} (h : Tp H v e) (k : Tk H H') : Tp H' v e := h.mono k
theorem Tps.to {vs : List V} {es : List PyData} (h : Tps H vs es) (k : Tk H H') : Tps H' vs es := h.mono k
end
section
variable {K : PySem.W.Frag} {w : World} {H : Hp} {v x y z : V} {i j k : Nat} {p a b : Addr} {xs ys : List V} {Q : VK} {σ : L2.St}
theorem g_ixTa {i : Int} (h : H p = some (.tup xs)) (e : xs[i.toNat]? = some v) (h0 : 0 ≤ i) (q : Q v H) : rIxG K w (.ref p) (.int i) H Q := g_ixT (.of h) (atI_of h0 e) q
theorem g_ixLa {i : Int} (h : H p = some (.lst xs)) (e : xs[i.toNat]? = some v) (h0 : 0 ≤ i) (q : Q v H) : rIxG K w (.ref p) (.int i) H Q := g_ixL (.of h) (atI_of h0 e) q
theorem g_isLa {R : Addr → Prop} (h : H p = some (.lst xs)) (q : R p) : ∃ a, V.ref p = .ref a ∧ (∃ xs, SqL K H a xs) ∧ R a := g_isL (.of h) q
theorem g_isTa {R : Addr → Prop} (h : H p = some (.tup xs)) (q : R p) : ∃ a, V.ref p = .ref a ∧ (∃ xs, SqT K H a xs) ∧ R a := g_isT (.of h) q
theorem g_inX {k : Str} {r : Bool} (h : H p = some (.tup xs)) (f : xs.all flatV = true) (e : inV (.str k) xs = r) (q : Q (.bl r) H) : rInG K w false (.str k) (.ref p) H Q := .inl ⟨p, xs, rfl, .inr (.of h), rfl, f, by rw [e]; exact q⟩
theorem g_notInX {k : Str} {r : Bool} (h : H p = some (.tup xs)) (f : xs.all flatV = true) (e : inV (.str k) xs = r) (q : Q (.bl (!r)) H) : rInG K w true (.str k) (.ref p) H Q := .inl ⟨p, xs, rfl, .inr (.of h), rfl, f, by rw [e]; exact q⟩
end
/-! comprehensions that make of each item one thing, where no old object changes -/
theorem Tps.of_get {H : Hp} : ∀ {us : List V} {ds : List PyData}, us.length = ds.length → (∀ (i : Nat) y, us[i]? = some y → ∃ d, ds[i]? = some d ∧ Tp H y d) → Tps H us ds
  | [], [], _, _ => .nil
  | u :: us, d :: ds, hl, h => by
    refine .cons ?_ (Tps.of_get (Nat.succ.inj hl) fun i y hy => h (i + 1) y hy)
    obtain ⟨d', h1, h2⟩ := h 0 u rfl
    cases h1
    exact h2
section
variable {K : PySem.W.Frag} {H1 : Hp} {g : TG} {te : TE} {vs : List Nat} {σ : L2.St} {a : Addr} {xs : List V} {Qd : Addr → Hp → Prop} {F : Nat → V → Hp → Prop}
theorem lc_map_any {J : It} (hJ1 : ∀ i H', i < xs.length → Same H1 H' → J.go i H') (hJ2 : ∀ H', Same H1 H' → J.stop xs.length H') (hJ3 : ∀ i H' x H2, Same H1 H' → J.yld i H' x H2 → H2 = H' ∧ xs[i]? = some x)
    (hl : xs.length ≤ 100000) (F : Nat → V → Hp → Prop) (hF : ∀ i y H H', Tk H H' → F i y H → F i y H')
    (hs : ∀ (i : Nat) x H' (Nx : V → Hp → Prop), xs[i]? = some x → Same H1 H' → (∀ y H4, Same H' H4 → F i y H4 → Nx y H4) → g x (wipe σ vs) H' fun σ2 H2 => wipe σ2 vs = wipe σ vs ∧ te σ2 H2 Nx)
    (hd : ∀ D (ys : List V) H', Fr H1 D → H' D = some (.lst ys) → ys.length = xs.length → (∀ (i : Nat) y, ys[i]? = some y → F i y H') → Same H1 H' → Qd D H') : LcR J g tYes te vs σ H1 Qd := by
  intro D hD
  refine lc_any xs.length (fun i acc H' => acc.length = i ∧ (∀ (j : Nat) y, acc[j]? = some y → F j y H') ∧ Same H1 H') hD (fun H' _ s => ⟨rfl, by simp, s⟩) (fun i acc H' hi ⟨_, _, s⟩ => hJ1 i H' hi s) (fun acc H' ⟨_, _, s⟩ => hJ2 H' s) ?_ ?_
  · rintro i x acc H2 H' hi hla ⟨ha, hf, s2⟩ hd2 hy
    obtain ⟨rfl, hx⟩ := hJ3 i _ _ _ s2 hy
    refine hs i x _ _ hx s2 fun y H4 s4 f4 => ?_
    refine lc_step (s4 _ _ hd2) hla (by show _ < 16777216; omega) fun H5 e5 c5 => ?_
    have k5 : Tk H4 H5 := c5.tkl (s4 _ _ hd2)
    refine ⟨by rw [List.length_append, ha]; rfl, fun j z hz => ?_, Same.chg (s2.trans s4) hD c5⟩
    by_cases hj : j < acc.length
    · rw [List.getElem?_append_left hj] at hz
      exact hF _ _ _ _ ((Same.tk s4).trans k5) (hf j z hz)
    · have hj2 : j < (acc ++ [y]).length := (List.getElem?_eq_some_iff.mp hz).1
      rw [List.length_append, List.length_singleton] at hj2
      have : j = acc.length := by omega
      subst this
      rw [List.getElem?_append_right (Nat.le_refl _), Nat.sub_self] at hz
      cases hz
      rw [ha]
      exact hF _ _ _ _ k5 f4
  · rintro acc H' hd2 ⟨ha, hf, s⟩
    exact hd D acc H' hD hd2 ha hf s
theorem lc_mapT (ea : H1 a = some (.tup xs)) (hl : xs.length ≤ 100000) (F : Nat → V → Hp → Prop) (hF : ∀ i y H H', Tk H H' → F i y H → F i y H')
    (hs : ∀ (i : Nat) x H' (Nx : V → Hp → Prop), xs[i]? = some x → Same H1 H' → (∀ y H4, Same H' H4 → F i y H4 → Nx y H4) → g x (wipe σ vs) H' fun σ2 H2 => wipe σ2 vs = wipe σ vs ∧ te σ2 H2 Nx)
    (hd : ∀ D (ys : List V) H', Fr H1 D → H' D = some (.lst ys) → ys.length = xs.length → (∀ (i : Nat) y, ys[i]? = some y → F i y H') → Same H1 H' → Qd D H') : LcR (Itt K a) g tYes te vs σ H1 Qd :=
  lc_map_any (xs := xs) (fun i H' hi s => ⟨_, _, .of (s _ _ ea), List.getElem?_eq_getElem hi⟩) (fun H' s => ⟨_, .of (s _ _ ea), Nat.le_refl _⟩) (fun i H' x H2 s ⟨e, hx⟩ => ⟨e, hx _ (.of (s _ _ ea))⟩) hl F hF hs hd
theorem lc_mapL (ea : H1 a = some (.lst xs)) (hl : xs.length ≤ 100000) (F : Nat → V → Hp → Prop) (hF : ∀ i y H H', Tk H H' → F i y H → F i y H')
    (hs : ∀ (i : Nat) x H' (Nx : V → Hp → Prop), xs[i]? = some x → Same H1 H' → (∀ y H4, Same H' H4 → F i y H4 → Nx y H4) → g x (wipe σ vs) H' fun σ2 H2 => wipe σ2 vs = wipe σ vs ∧ te σ2 H2 Nx)
    (hd : ∀ D (ys : List V) H', Fr H1 D → H' D = some (.lst ys) → ys.length = xs.length → (∀ (i : Nat) y, ys[i]? = some y → F i y H') → Same H1 H' → Qd D H') : LcR (Itl K a) g tYes te vs σ H1 Qd :=
  lc_map_any (xs := xs) (fun i H' hi s => ⟨_, _, .of (s _ _ ea), List.getElem?_eq_getElem hi⟩) (fun H' s => ⟨_, .of (s _ _ ea), Nat.le_refl _⟩) (fun i H' x H2 s ⟨e, hx⟩ => ⟨e, hx _ (.of (s _ _ ea))⟩) hl F hF hs hd
end
/-! for over a tuple, over a list that stays -/
section
variable {K : PySem.W.Frag} {g : TG} {tb : TS} {D : Ends} {σ : L2.St} {H : Hp} {a : Addr} {xs : List V}
theorem for_T (Pv : Nat → L2.St → Hp → Prop) (ha : ∀ i σ H', Pv i σ H' → H' a = some (.tup xs)) (h0 : Pv 0 σ H)
    (hs : ∀ (i : Nat) x σ H', xs[i]? = some x → Pv i σ H' → g x σ H' fun σ2 H2 => tb { D with nx := Pv (i + 1), ct := Pv (i + 1), bk := D.nx } σ2 H2) (hd : ∀ σ H', Pv xs.length σ H' → D.nx σ H') : ForW (Itt K a) g tb D σ H :=
  for_any xs.length Pv h0 (fun i σ H' hi p => ⟨_, _, .of (ha _ _ _ p), List.getElem?_eq_getElem hi⟩) (fun σ H' p => ⟨_, .of (ha _ _ _ p), Nat.le_refl _⟩)
    (fun i x σ H1 H2 hi p ⟨e, hx⟩ => by subst e; exact hs i x σ _ (hx _ (.of (ha _ _ _ p))) p) hd
theorem for_L (Pv : Nat → L2.St → Hp → Prop) (ha : ∀ i σ H', Pv i σ H' → H' a = some (.lst xs)) (h0 : Pv 0 σ H)
    (hs : ∀ (i : Nat) x σ H', xs[i]? = some x → Pv i σ H' → g x σ H' fun σ2 H2 => tb { D with nx := Pv (i + 1), ct := Pv (i + 1), bk := D.nx } σ2 H2) (hd : ∀ σ H', Pv xs.length σ H' → D.nx σ H') : ForW (Itl K a) g tb D σ H :=
  for_any xs.length Pv h0 (fun i σ H' hi p => ⟨_, _, .of (ha _ _ _ p), List.getElem?_eq_getElem hi⟩) (fun σ H' p => ⟨_, .of (ha _ _ _ p), Nat.le_refl _⟩)
    (fun i x σ H1 H2 hi p ⟨e, hx⟩ => by subst e; exact hs i x σ _ (hx _ (.of (ha _ _ _ p))) p) hd
end
section
variable {K : PySem.W.Frag} {w : World} {H H' : Hp} {Q : VK} {a b : Addr} {xs ys : List V} {kvs : List (Key × V)}
theorem g_dict (h : H a = some (.dK kvs)) (q : New H (.dK kvs) fun p H' => Q (.ref p) H') : rDictG [.ref a] H Q := ⟨a, kvs, rfl, h, q⟩
theorem g_addTn (h1 : H a = some (.tup xs)) (h2 : H b = some (.tup ys)) (hl : xs.length + ys.length ≤ sizeLine) (ny : ys ≠ []) (q : ∀ c H', H' c = some (.tup (xs ++ ys)) → Same H H' → Q (.ref c) H') : rAddG K (.ref a) (.ref b) H Q := by
  refine .inr (.inr (.inr ⟨a, b, xs, ys, rfl, rfl, .of h1, .of h2, hl, fun e => ?_, fun _ e => absurd e ny, fun _ _ p H' _ e s => q p H' e s⟩))
  subst e
  exact q b H h2 (.refl _)
/-- a list and an empty one -/
theorem g_neNil (h : H a = some (.lst xs)) (h2 : H b = some (.lst [])) (q : Q (.bl (!xs.isEmpty)) H) : rNeG K (.ref a) (.ref b) H Q := by
  cases xs with
  | nil => exact .inr (.inr (.inr (.inl ⟨1, by decide, .inl ⟨a, b, [], [], rfl, rfl, .of h, .of h2, .nil⟩, q⟩)))
  | cons x xs => exact .inr (.inr (.inr (.inr ⟨a, b, _, _, rfl, rfl, .of h, .of h2, by simp, q⟩)))
theorem g_eqNil (h : H a = some (.lst xs)) (h2 : H b = some (.lst [])) (q : Q (.bl xs.isEmpty) H) : rEqG K (.ref a) (.ref b) H Q := by
  cases xs with
  | nil => exact .inr (.inr (.inr (.inl ⟨1, by decide, .inl ⟨a, b, [], [], rfl, rfl, .of h, .of h2, .nil⟩, q⟩)))
  | cons x xs => exact .inr (.inr (.inr (.inr ⟨a, b, _, _, rfl, rfl, .of h, .of h2, by simp, q⟩)))
def GTup (K : PySem.W.Frag) (a : Addr) (xs : List V) : Prop := ∀ H : Hp, SqT K H a xs
theorem g_inGT {k : Str} {r : Bool} (h : GTup K a xs) (f : xs.all flatV = true) (e : inV (.str k) xs = r) (q : Q (.bl r) H) : rInG K w false (.str k) (.ref a) H Q := .inl ⟨a, xs, rfl, .inr (h H), rfl, f, by rw [e]; exact q⟩
theorem g_neBI {i j : Int} (q : Q (.bl (!decide (i = j))) H) : rNeB K (.int i) (.int j) H Q := .inl (g_neI q)
theorem g_neBS {i j : Str} (q : Q (.bl (!decide (i = j))) H) : rNeB K (.str i) (.str j) H Q := .inl (g_neS q)
theorem g_eqBI {i j : Int} (q : Q (.bl (decide (i = j))) H) : rEqB K (.int i) (.int j) H Q := .inl (g_eqI q)
theorem g_eqBS {i j : Str} (q : Q (.bl (decide (i = j))) H) : rEqB K (.str i) (.str j) H Q := .inl (g_eqS q)
end
/-! Classes of the text: methods called, objects made, attributes read and set. -/
open PySem L2 PyProof.Rows PySem.Spec
/-- a method that may be called on objects of its class (no exception leaves it) -/
structure MCal (P : Program) (w : World) (K : PySem.W.Frag) (mg : Str → Option Value) (base : Heap) (k : Nat) (C : Addr) (m : Str) (sp : Sp) : Prop where
  ex : ∃ (f : Addr) (fd : FuncData) (ps : List Str), FnOk P w K mg base CX0 k f fd ps sp ∧ Meth K C m f ∧ Cls K C ∧ Binds K fd ps []
/-- a class whose objects may be made -/
structure KCal (P : Program) (w : World) (K : PySem.W.Frag) (mg : Str → Option Value) (base : Heap) (k : Nat) (x : Str) (C : Addr) (sp : Sp) : Prop where
  ex : ∃ (j : Nat) (f : Addr) (fd : FuncData) (ps : List Str), j + 1 ≤ k ∧ FnOk P w K mg base CX0 j f fd ps sp ∧ Mk K C f ∧ mg x = some (.ref C) ∧ Binds K fd ps []
section
variable {P : Program} {w : World} {K : PySem.W.Frag} {mg : Str → Option Value} {base : Heap}
theorem MCal.mono {j k : Nat} {C : Addr} {m : Str} {sp : Sp} (c : MCal P w K mg base j C m sp) (h : j ≤ k) : MCal P w K mg base k C m sp := by
  obtain ⟨f, fd, ps, F, a, b, d⟩ := c.ex
  exact ⟨f, fd, ps, F.mono h, a, b, d⟩
theorem KCal.mono {j k : Nat} {x : Str} {C : Addr} {sp : Sp} (c : KCal P w K mg base j x C sp) (h : j ≤ k) : KCal P w K mg base k x C sp := by
  obtain ⟨i, f, fd, ps, hi, F, a, b, d⟩ := c.ex
  exact ⟨i, f, fd, ps, Nat.le_trans hi h, F, a, b, d⟩
theorem kcal_mk {x q : Str} {C : Addr} {params : Arguments} {body : List Stmt} {scope : Scope} {f : Addr} {fd : FuncData} {N ps : List Str} {k : Nat} {sp : Sp} (F : FunD K "__init__" q params body scope [] [] f fd) (hm : Mk K C f) (hg : mg x = some (.ref C)) (S : FnScope N ps scope)
    (b : Binds K fd ps []) (len : ∀ vs H Q E, sp vs H Q E → vs.length = ps.length)
    (hbody : ∀ (cdv : Value) (A : Around) (outer : List Env) (s : Shared) (H : Hp) (vs : List V) (Q : VK) (E : XK), Room k (A.deeper (envOfC q scope s.heap.objs.size f cdv)) → sp vs H Q E →
      ∃ t, PSs (cxOf CX0 P w K mg base N q scope f cdv A outer s H E) body t ∧ t { nx := fun _ H' => Q .non H', rt := Q } (start N vs) H) : KCal P w K mg base (k + 2) x C sp :=
  ⟨k + 1, f, fd, ps, Nat.le_refl _, F.ok S len hbody, hm, hg, b⟩
end
section
variable {X : Cx} {k : Nat} {x m : Str} {C : Addr} {sp : Sp} {p apos pos p0 : Pos} {o e : Expr} {es : List Expr} {ta : TE} {t : TA}
theorem pe_kcal (c : KCal X.prog X.w X.K X.mg X.base k x C sp) (hr : Room k X.A) (hg : Gl X x) (ha : PA X (e :: es) t)
    (hdb : (x == ("__debug__" : Str)) = false := by decide) (he : starEach (e :: es) X.env = (false, eval e X.env) :: starEach es X.env := by rfl) (hpl : (backTo pos (starEach es X.env)).any (·.1) = false := by rfl) :
    PE X (.Call (.Name x p0) (e :: es) [] pos) (tMake C sp [] E0 t) := by
  obtain ⟨j, f, fd, ps, hj, F, hm, hC, b⟩ := c.ex
  exact pe_make hm F (hr.mono hj) hg hC b .nil pass0 ha hdb he hpl
end
/-! int of a text too -/
def rIntA : List V → Hp → VK → Prop := fun xs H Q => rIntG xs H Q ∨ rIntS xs H Q
theorem call_intA {X : Cx} : CallR X (.type "int") rIntA := CallR.or call_int1 call_int_str
theorem g_intT {s : Str} {n : Int} {H : Hp} {Q : VK} (h : PySem.intText? s = some n) (hl : s.length ≤ 640) (q : Q (.int n) H) : rIntA [.str s] H Q := .inr ⟨s, n, rfl, h, hl, q⟩
/-! fields, methods, new objects, in steps -/
def FldR (K : PySem.W.Frag) (f : Str) (x : V) (H : Hp) (Q : VK) : Prop := ∃ a C dx fs v, x = .ref a ∧ H a = some (.ins C dx fs) ∧ Cls K C ∧ NoAttr K C f ∧ fs.lookup f = some v ∧ Q v H
def SFldR (K : PySem.W.Frag) (f : Str) (y x : V) (H : Hp) (R : Hp → Prop) : Prop := ∃ a C dx fs, x = .ref a ∧ H a = some (.ins C dx fs) ∧ Cls K C ∧ NoAttr K C f ∧ fs.length < 1000 ∧ R (upd H a (.ins C dx (putF f y fs)))
def MethR (C : Addr) (m : Str) (x : V) (H : Hp) (R : V → Hp → Prop) : Prop := ∃ a dx fs, x = .ref a ∧ H a = some (.ins C dx fs) ∧ fs.lookup m = none ∧ R x H
def MakeR (C : Addr) (H : Hp) (R : Addr → Hp → Prop) : Prop := ∀ x dx, H x = none → H dx = none → dx ≠ x → R x (upd (upd H dx (.own x)) x (.ins C dx []))
section
variable {K : PySem.W.Frag} {f m : Str} {C a dx : Addr} {fs fs' : List (Str × V)} {v y : V} {H : Hp} {Q : VK} {R : Hp → Prop} {ta tv : TE} {t : TA} {σ : L2.St} {D : Ends} {sp : Sp} {E : XK}
theorem g_fld (h : ta σ H fun x H1 => FldR K f x H1 Q) : tFld K ta f σ H Q := h
theorem g_fldr (he : H a = some (.ins C dx fs)) (hc : Cls K C) (hn : NoAttr K C f) (hv : fs.lookup f = some v) (q : Q v H) : FldR K f (.ref a) H Q := ⟨a, C, dx, fs, v, rfl, he, hc, hn, hv, q⟩
theorem g_sfld (h : tv σ H fun y H1 => ta σ H1 fun x H2 => SFldR K f y x H2 fun H3 => D.nx σ H3) : sFld K ta tv f D σ H := h
theorem g_sfldr (he : H a = some (.ins C dx fs)) (hc : Cls K C) (hn : NoAttr K C f) (hl : fs.length < 1000) (hp : putF f y fs = fs') (q : Put H a (.ins C dx fs') R) : SFldR K f y (.ref a) H R :=
  ⟨a, C, dx, fs, rfl, he, hc, hn, hl, by rw [hp]; exact q.at⟩
theorem g_meth (h : ta σ H fun x H1 => MethR C m x H1 fun x H1 => t σ H1 fun vs H2 => sp (x :: (vs ++ [])) H2 Q E) : tMeth C m sp [] E ta t σ H Q := h
theorem g_methr {R : V → Hp → Prop} (he : H a = some (.ins C dx fs)) (hn : fs.lookup m = none) (q : R (.ref a) H) : MethR C m (.ref a) H R := ⟨a, dx, fs, rfl, he, hn, q⟩
theorem g_make (h : t σ H fun vs H1 => MakeR C H1 fun x H2 => sp (.ref x :: (vs ++ [])) H2 (fun v H3 => v = .non ∧ Q (.ref x) H3) E) : tMake C sp [] E t σ H Q := h
theorem g_maker {R : Addr → Hp → Prop} (q : ∀ x dx H', Fr H x → H' x = some (.ins C dx []) → Same H H' → R x H') : MakeR C H R := fun x dx hx hd hn => by
  refine q x dx _ hx upd_same fun b o hb => ?_
  have hbx : b ≠ x := fun e => by rw [e, hx] at hb; cases hb
  have hbd : b ≠ dx := fun e => by rw [e, hd] at hb; cases hb
  rw [upd_ne hbx, upd_ne hbd]
  exact hb
end

/-! Errors of the text's own: defs that let them out, raise, a try whose clause keeps the error, isinstance of a kept one, its name. -/
open PySem L2 PyProof.Rows PySem.Spec
/-! ### a kept error -/
/-- at a: an error of the class at C, its dict (none | at d) -/
def hxc (a C : Addr) (d : Option Addr) : HO := .ext fun h => ∃ oe vs, h.get? a = some oe ∧ oe.cls = .ref C ∧ oe.dict = d ∧ oe.data = .fields vs
theorem hxc_ok {P : Program} {w : World} {H : Hp} {h : Heap} {a C : Addr} {d : Option Addr} {oe : Obj} {vs : Array Value} (e : h.get? a = some oe) (h1 : oe.cls = .ref C) (h2 : oe.dict = d) (h3 : oe.data = .fields vs) : ObjOk P w H h a (hxc a C d) :=
  ⟨⟨oe, vs, e, h1, h2, h3⟩, ⟨oe, e⟩, fun x y ⟨o, us, p1, p2, p3, p4⟩ k => ⟨o, us, k o p1, p2, p3, p4⟩⟩
section
variable {X : Cx} {σ : L2.St} {H : Hp} {s : Shared} {pins : List (Addr × Obj)}
/-- the suite's error is kept: it is tracked from here on -/
theorem adopt {a C : Addr} {d : Option Addr} {oe : Obj} {vs : Array Value} (I : Inv (X.suite a ((a, oe) :: (X.pn ++ pins))) [] σ H s) (ok : X.Ok) (new : X.s_0.heap.get? a = none) (apart : ∀ p ∈ X.pn ++ pins, p.1 ≠ a) (h1 : oe.cls = .ref C) (h2 : oe.dict = d) (h3 : oe.data = .fields vs) :
    Inv X pins σ (upd H a (hxc a C d)) s := by
  obtain ⟨ea, na, nL, nF, _⟩ := I.pin (a, oe) (List.mem_append_left _ List.mem_cons_self)
  have b0 := I.base
  have u := I.unsuite ok
  have nb : ∀ b o, X.s_0.heap.get? b = some o → b ≠ a := fun b o e z => by rw [z, new] at e; cases e
  have keepH : ∀ b o, H b = some o → upd H a (hxc a C d) b = some o := fun b o e => by
    rw [upd_ne (fun z => by rw [z] at e; rw [e] at na; cases na)]
    exact e
  refine ⟨ok, u.os, u.bare, ⟨u.base.keep, u.base.slot, fun b o e n hx => ?_, u.base.there, fun b xs e => keepH _ _ (u.base.tups b xs e), fun b o xs e => keepH _ _ (u.base.frzs b o xs e), fun b ps e => ?_⟩, u.loc, u.cell, ?_, fun x c e => ?_, fun p hp => ?_, fun b o e => ?_, u.len⟩
  · rw [upd_ne (nb b o e)]
    exact u.base.free b o e n hx
  · obtain ⟨more, q⟩ := u.base.tbls b ps e
    exact ⟨more, keepH _ _ q⟩
  · rw [upd_ne (Ne.symm nL)]
    exact u.free
  · obtain ⟨v, o, ho, hd⟩ := u.cell x c e
    have hca : c ≠ a := fun z => by
      rw [z, ea] at ho
      cases ho
      rw [h3] at hd
      cases hd
    rw [upd_ne hca]
    exact u.freeC x c e
  · obtain ⟨p1, p2, p3, p4, p5⟩ := u.pin p hp
    exact ⟨p1, by rw [upd_ne (apart p hp)]; exact p2, p3, p4, p5⟩
  · by_cases hb : b = a
    · subst hb
      rw [upd_same] at e
      cases e
      exact hxc_ok ea h1 h2 h3
    · rw [upd_ne hb] at e
      exact (u.hok b o e).stay (fun _ _ _ q => q) (fun c q => keepH _ _ q) fun c xs q => keepH _ _ q
end
/-- what 'except x as n' wishes of an error of the body, where every one is caught and kept behind the suite -/
def wKeep (K : PySem.W.Frag) (c : Value) (i : Nat) (ts : Addr → Value → Option Addr → TS) (D : Ends) : WX := fun cls d σ H =>
  ∃ C, cls = .ref C ∧ PySem.W.exmOne K cls c = some true ∧ ∀ a, H a = none → ts a cls d { nx := fun σ' H' => D.nx (σ'.set i none) (upd H' a (hxc a C d)), rt := fun _ _ => False } (σ.set i (some (.ref a))) H
section
variable {X : Cx} {x n : Str} {c : Value} {i : Nat} {body suite : List Stmt} {b₀ : Stmt} {np pos pos' : Pos} {tb : WX → TS} {ts : Addr → Value → Option Addr → TS}
theorem ps_try_keep (hs : X.stack = X.env :: X.outer) (hf : X.env.frame = some X.env.locals) (hex : X.ex = []) (hN : X.N.Nodup) (hi : X.N[i]? = some n) (hln : X.env.kindOf n = some .local) (hc : Names X x c)
    (hb : ∀ (W : WX) (pn : List (Addr × Obj)) (xe : Value → Shared → Prop), Takes (X.tr pn xe) W → PassesOwn (model X.prog X.w) X.A X.env xe → PSs (X.tr pn xe) body (tb W))
    (hsu : ∀ (a : Addr) (oe : Obj) (cls : Value) (d : Option Addr) (pn : List (Addr × Obj)), Zc cls d oe → (∃ vs, oe.data = .fields vs) → PSs (X.suite a ((a, oe) :: pn)) (b₀ :: suite) (ts a cls d)) :
    PS X (.Try body [.ExceptHandler (some (.Name x np)) (some n) (b₀ :: suite) pos'] [] [] pos) (fun D σ H => tb (wKeep X.K c i ts D) D σ H) := by
  refine ⟨fun pins s σ H D I h => ?_⟩
  have ok := I.ok
  have hfr : X.A.frames = some (X.env :: X.outer) := by rw [ok.frames, hs]
  -- the clause's name, looked up while the error at a is handled
  have test : ∀ {a : Addr} {oe : Obj} {σ1 : L2.St} {H1 : Hp} {s1 : Shared} {Q : Value → Shared → Prop} {E : Value → Shared → Prop}, Inv (X.suite a ((a, oe) :: (X.pn ++ pins))) [] σ1 H1 s1 → Q c s1 →
      wpAny (model X.prog X.w) (X.A.mark (some (.ref a))) (eval (.Name x np) X.env) Q E s1 := fun {a oe σ1 H1 s1 Q E} S q => by
    obtain ⟨hg, hdbg, hm | ⟨hm, hv, hnn⟩⟩ := hc
    · exact ld_glob S hg hm q hdbg
    · exact ld_blt S hg hm hv q hnn hdbg
  refine wpAny_Try_except (wpAny_mono ((hb (wKeep X.K c i ts D) (X.pn ++ pins) (fun e s₁ => wpAny (model X.prog X.w) X.A (noteFrame e X.env) (fun _ s₂ => wpAny (model X.prog X.w) X.A (setFlight e none) (fun _ s₃ =>
    wpAny (model X.prog X.w) X.A (handleBy e X.env [.ExceptHandler (some (.Name x np)) (some n) (b₀ :: suite) pos']) (SP X pins D) X.xe s₃) X.xe s₂) X.xe s₁) (fun u s' xx => ?_) PassesOwn.looking).run [] s σ H D (I.toTry _) h) (fun f s1 hsp => ?_) (fun e s1 he => he))
  · obtain ⟨a, B, sI, pins', σ', H', cls, d, rfl, J', nb, up, sky, na, os, ag, C, rfl, hex1, hyes⟩ := xx
    have J : Inv X pins σ' H' sI := J'.ofTry ok
    have sky' : Sky B (X.env :: X.outer) a (Zc (.ref C) d) X.env.locals s'.heap := by rw [← hs]; exact sky
    show wpAny (model X.prog X.w) X.A (noteFrame (.ref a) X.env) _ _ _
    refine Sky.land Zc.steady hfr hf sky' fun h3 fl3 up3 => ?_
    have J3 : Inv X pins σ' H' { s' with heap := h3 } := J.landed nb fl3.1 (up.trans up3) os ag
    obtain ⟨oe3, vs3, he3, hz3, hd3⟩ := fl3.there
    have nfr : a ∉ frs (X.env :: X.outer) := fun hm => by
      obtain ⟨_, o', e', hnf⟩ := fl3.2.2.1.mem hm
      rw [he3] at e'
      cases e'
      exact hnf _ hd3
    have nL : a ≠ X.env.locals := fun z => nfr (List.mem_filterMap.mpr ⟨X.env, List.mem_cons_self, by rw [hf, z]⟩)
    have nF : a ∉ X.fs := fun hm => by
      obtain ⟨e, he, q⟩ := List.mem_filterMap.mp hm
      exact nfr (List.mem_filterMap.mpr ⟨e, List.mem_cons_of_mem _ he, q⟩)
    -- the error is none of what stood ahead
    have young : sI.heap.get? a = none := by
      cases q : sI.heap.get? a with
      | none => rfl
      | some o =>
        have z := nb a o q (by rw [hs]; exact nfr)
        rw [fl3.2.1] at z
        cases z
    have new : X.s_0.heap.get? a = none := by
      cases q : X.s_0.heap.get? a with
      | none => rfl
      | some o =>
        obtain ⟨o', z⟩ := J.base.there a o q (by rw [hex]; exact List.not_mem_nil)
        rw [young] at z
        cases z
    have apart : ∀ p ∈ X.pn ++ pins, p.1 ≠ a := fun p hp z => by
      have q := (J.pin p hp).1
      rw [z, young] at q
      cases q
    have S3 := J3.suite he3 hd3 na nL nF
    refine wpAny_handleBy_cons (codeAny_handlers_test ?_) (by intro q; cases q)
    have LT : PySem.W.Looks (model X.prog X.w) h3 (typeOf (.ref a)) (.ref C) := fun A Q E s k q => wpAny_typeOf_ref (k _ _ he3) (by rw [hz3.1]; exact q)
    have LM := PySem.W.exm_one (M := model X.prog X.w) (J3.kIn) LT hex1
    refine test S3 (LM.here (codeAny_handlers_suite_as (HandSPX.lands_againZ fl3 fun h4 fl4 up4 => ?_)))
    have J4 : Inv X pins σ' H' { s' with heap := h4 } := J.landed nb fl4.1 ((up.trans up3).trans up4) os ag
    obtain ⟨oe4, vs4, he4, hz4, hd4⟩ := fl4.there
    have S4 := J4.suite he4 hd4 na nL nF
    refine store_ok (X := X.suite a ((a, oe4) :: (X.pn ++ pins))) (v := .ref a) S4 hN hi (.inl hln) rfl (fun s5 S5 => ?_) (.inr hln)
    refine wpAny_mono ((hsu a oe4 (.ref C) d (X.pn ++ pins) hz4 ⟨_, hd4⟩).run [] s5 _ H' _ S5 (hyes a na)) (fun f s6 hsp => ?_) (fun _ _ z => False.elim z)
    cases f with
    | next =>
      obtain ⟨σ6, H6, S6, q6⟩ := hsp
      exact gone_ok (X := X.suite a ((a, oe4) :: (X.pn ++ pins))) S6 hN hi hln fun s7 S7 => ⟨_, _, adopt S7 ok new apart hz4.1 hz4.2 hd4, q6⟩
    | brk => obtain ⟨_, _, _, q6⟩ := hsp; exact False.elim q6
    | cont => obtain ⟨_, _, _, q6⟩ := hsp; exact False.elim q6
    | ret u => obtain ⟨_, _, _, _, _, q6⟩ := hsp; exact False.elim q6
  · cases f with
    | next =>
      obtain ⟨σ', H', J', q⟩ := hsp
      exact wpAny_execs_nil ⟨σ', H', J'.ofTry ok, q⟩
    | brk =>
      obtain ⟨σ', H', J', q⟩ := hsp
      exact ⟨σ', H', J'.ofTry ok, q⟩
    | cont =>
      obtain ⟨σ', H', J', q⟩ := hsp
      exact ⟨σ', H', J'.ofTry ok, q⟩
    | ret u =>
      obtain ⟨v, σ', H', J', r, q⟩ := hsp
      exact ⟨v, σ', H', J'.ofTry ok, r, q⟩
end
/-! ### classes of errors, by a look at the written part -/
def eqV (a b : Option (Option Value)) : Bool := decide (a = b)
/-- what isinstance, attributes, an except clause want of a class -/
structure ExcK (K : PySem.W.Frag) (C : Addr) : Prop where
  cl : (PySem.W.clsIn K C).isSome = true
  ga : PySem.W.findIn K (.ref C) "__getattribute__" = some (some (.builtin "BaseException.__getattribute__"))
  gg : PySem.W.findIn K (.ref C) "__getattr__" = some none
  ex : PySem.W.subIn K (.ref C) (.type "BaseException") = some true
  hd : PySem.W.hasDictIn K C = true
  cs : PySem.W.findIn K (.ref C) "__class__" = some (some (.builtin "object.__class__"))
  gt : PySem.W.specialIn K (.builtin "object.__class__") "__get__" = some (some (.builtin "getset_descriptor.__get__"))
  tk : PySem.W.takesIn K (.builtin "object.__class__") = some true
  mr : PySem.W.mroIn K C (.type "object") = some true
  ty : PySem.W.typeIn K (.ref C) = some (.type "type")
  kp : PySem.W.keepIn K (.ref C) = true
def exkB (K : PySem.W.Frag) (C : Addr) : Bool :=
  (PySem.W.clsIn K C).isSome && (eqV (PySem.W.findIn K (.ref C) "__getattribute__") (some (some (.builtin "BaseException.__getattribute__"))) && (eqV (PySem.W.findIn K (.ref C) "__getattr__") (some none) &&
  (decide (PySem.W.subIn K (.ref C) (.type "BaseException") = some true) && (PySem.W.hasDictIn K C && (eqV (PySem.W.findIn K (.ref C) "__class__") (some (some (.builtin "object.__class__"))) &&
  (eqV (PySem.W.specialIn K (.builtin "object.__class__") "__get__") (some (some (.builtin "getset_descriptor.__get__"))) && (decide (PySem.W.takesIn K (.builtin "object.__class__") = some true) &&
  (decide (PySem.W.mroIn K C (.type "object") = some true) && (decide (PySem.W.typeIn K (.ref C) = some (.type "type")) && PySem.W.keepIn K (.ref C))))))))))
theorem exkB_ok {K : PySem.W.Frag} {C : Addr} (h : exkB K C = true) : ExcK K C := by
  unfold exkB eqV at h
  simp only [Bool.and_eq_true, decide_eq_true_iff] at h
  obtain ⟨h1, h2, h3, h4, h5, h6, h7, h8, h9, h10, h11⟩ := h
  exact ⟨h1, h2, h3, h4, h5, h6, h7, h8, h9, h10, h11⟩
/-- what the making of an error with fields wants -/
def oexB (K : PySem.W.Frag) (C : Addr) : Bool := (match K.lookup C with
  | some ⟨.type "type", _, .cls cd, sl⟩ => (match cd.mro, sl.toList with
    | .ref C' :: bm, [_, _, _, _, some (.builtin n), _] => C' == C && (n == "ValueError.__new__" && (!cd.hasDel && (cd.hasDict && PySem.HandSPX.refsVE bm)))
    | _, _ => false)
  | _ => false) && (eqV (PySem.W.findIn K (.ref C) "__setattr__") (some (some (.builtin "object.__setattr__"))) && (decide (PySem.W.subIn K (.ref C) (.type "BaseException") = some true) &&
    (decide (PySem.W.typeIn K (.ref C) = some (.type "type")) && PySem.W.keepIn K (.ref C))))
theorem oexB_ok {K : PySem.W.Frag} {C : Addr} (h : oexB K C = true) : OexC K C := by
  unfold oexB eqV at h
  simp only [Bool.and_eq_true, decide_eq_true_iff] at h
  obtain ⟨q, h1, h2, h3, h4⟩ := h
  refine ⟨?_, h1, h2, h3, h4⟩
  split at q
  · rename_i dd cd sl ho
    split at q
    · rename_i C' bm k0 k1 k2 k3 n k5 hm hs
      simp only [Bool.and_eq_true, beq_iff_eq, Bool.not_eq_true'] at q
      obtain ⟨rfl, rfl, hdel, hdict, ht⟩ := q
      obtain ⟨nm, bs, mro, ns, qn, hd, sn, sub, ab, col, del⟩ := cd
      dsimp only at hm hdel hdict
      subst hm hdel hdict
      have hsl : sl = #[k0, k1, k2, k3, some (.builtin "ValueError.__new__"), k5] := by
        obtain ⟨l⟩ := sl
        simp only at hs
        rw [hs]
      subst hsl
      exact ⟨nm, qn, ns, bs, bm, sn, sub, ab, col, dd, k0, k1, k2, k3, k5, ho, ht⟩
    · cases q
  · cases q
/-! ### isinstance of a kept error, its name -/
/-- isinstance(e, c), e a kept error -/
def rIsX (K : PySem.W.Frag) : List V → Hp → VK → Prop := fun xs H Q => ∃ (a C : Addr) (d : Option Addr) (c : V) (cv : Value) (b : Bool), xs = [.ref a, c] ∧ H a = some (hxc a C d) ∧ (∀ dd, d = some dd → ∃ fs, H dd = some (.xd fs)) ∧ ExcK K C ∧
  (∀ u, RelV c u → u = cv) ∧ PySem.W.kitOne K (.ref C) cv = some b ∧ Q (.bl b) H
section
variable {X : Cx} {pins : List (Addr × Obj)} {σ : L2.St} {H : Hp} {s : Shared}
theorem hxc_inst {a C : Addr} {d : Option Addr} (I : Inv X pins σ H s) (ha : H a = some (hxc a C d)) (hd : ∀ dd, d = some dd → ∃ fs, H dd = some (.xd fs)) : ∃ oe od, PySem.W.InstAt s.heap a oe C od ∧ (d = none → od = none) ∧ ∀ dd, d = some dd → ∃ o, od = some o ∧ s.heap.get? dd = some o := by
  obtain ⟨⟨oe, vs, e1, e2, e3, e4⟩, _⟩ := I.hok a _ ha
  cases d with
  | none =>
    refine ⟨oe, none, ⟨e1, e2, by unfold PySem.W.notCls; rw [e4], by rw [e3]; trivial⟩, fun _ => rfl, ?_⟩
    intro dd e
    cases e
  | some dd =>
    obtain ⟨fs, hfs⟩ := hd dd rfl
    obtain ⟨mA, ⟨od, es, ep, ho, hr⟩, _⟩ := I.hok dd _ hfs
    refine ⟨oe, some od, ⟨e1, e2, by unfold PySem.W.notCls; rw [e4], by rw [e3]; exact ho⟩, ?_, ?_⟩
    · intro e
      cases e
    · intro d' e
      cases e
      exact ⟨od, rfl, ho⟩
theorem call_isX : CallR X (.builtin "isinstance") (rIsX X.K) := by
  intro pins s σ H xs us Q I r h
  obtain ⟨a, C, d, c, cv, b, rfl, ha, hd, T, hcv, e, q⟩ := h
  cases r with
  | cons rx rr =>
    cases rr with
    | cons rt rr =>
      cases rr
      cases rx
      have ec := hcv _ rt
      subst ec
      obtain ⟨oe, od, J, _⟩ := hxc_inst I ha hd
      exact PySem.W.kia_one (PySem.W.kitx_exc T.cl T.ga T.gg T.ex T.cs T.gt T.tk T.mr) I.kIn J e (fun z => nomatch z) fun tk => ⟨.bl b, H, I.kept (t' := tk) fun _ _ z => z, rfl, q⟩
end
/-- e.f, e a kept error whose fields stand in its dict -/
def FldX (K : PySem.W.Frag) (f : Str) (x : V) (H : Hp) (Q : VK) : Prop := ∃ (a C dd : Addr) (fs : List (Str × V)) (v : V), x = .ref a ∧ H a = some (hxc a C (some dd)) ∧ H dd = some (.xd fs) ∧ ExcK K C ∧ PySem.W.findIn K (.ref C) f = some none ∧ fs.lookup f = some v ∧ Q v H
def tFldX (K : PySem.W.Frag) (f : Str) (te : TE) : TE := fun σ H Q => te σ H fun x H1 => FldX K f x H1 Q
section
variable {X : Cx} {W : WX} {E : XK} {x m f : Str} {C : Addr} {sp : Sp} {k j : Nat} {p p2 pos pos2 : Pos} {e : Expr} {es : List Expr} {te : TE} {ta : TA}
theorem pe_fldX (he : PE X e te) (hb : attributeBase e f X.env (eval e X.env) = eval e X.env := by rfl) : PE X (.Attribute e f pos) (tFldX X.K f te) := by
  refine ⟨fun pins s σ H Q I h => ?_⟩
  refine attr_of hb (thn (he.run pins s σ H _ I h) fun u s1 hh => ?_)
  obtain ⟨y, H1, I1, rx, a, C, dd, fs, v, rfl, ha, hd, T, hno, l, q⟩ := hh
  obtain rfl : u = Value.ref a := rx
  obtain ⟨oe, od, J, _, hod⟩ := hxc_inst I1 ha fun d' e' => by cases e'; exact ⟨fs, hd⟩
  obtain ⟨o', rfl, ho'⟩ := hod dd rfl
  obtain ⟨mA, hns, hr⟩ := I1.hok dd _ hd
  obtain ⟨od2, ho, hl⟩ := lookIn_ns hns
  rw [ho'] at ho
  cases ho
  obtain ⟨u, hu, ru⟩ := RelO.some_of (v := v) (o := mA f) (by rw [← l]; exact hr f)
  exact HandSPX.exc_get I1.kIn J T.ga T.gg T.ex (PySem.W.findObj_own T.hd hno rfl (by rw [hl, hu])) (handed_of ru) ⟨v, H1, I1.tok _, ru, q⟩
/-! ### raise -/
/-- raise C('m') -/
def tRaiseO (C : Addr) (E : XK) : TS := fun _ _ H => E (.ref C) none H
theorem ps_raiseO (hc : X.calm = true) (tk : Takes X (fun cls d _ H => E cls d H)) (q : PySem.W.excIn X.K C He.veBase "ValueError.__new__" = true) (gC : X.mg x = some (.ref C)) (T : ExcK X.K C) (hg : Gl X x) (hdb : (x == ("__debug__" : Str)) = false := by decide) :
    PS X (.Raise (some (.Call (.Name x p) [.Constant (.str m) j p2] [] pos)) none pos2) (tRaiseO C E) := ps_raise hc tk (pmk_own PySem.F.excBase_ValueError q gC T.kp (raises_own T.ex T.ty) hg hdb)
/-- a class of errors with fields: its __init__ keeps sp -/
structure Xal (P : Program) (w : World) (K : PySem.W.Frag) (mg : Str → Option Value) (base : Heap) (k : Nat) (x : Str) (C : Addr) (sp : Sp) : Prop where
  ex : ∃ (i : Nat) (fI : Addr) (fd : FuncData) (ps : List Str), i + 1 ≤ k ∧ FnOk P w K mg base CX0 i fI fd ps sp ∧ PySem.W.findIn K (.ref C) "__init__" = some (some (.ref fI)) ∧ PySem.W.typeIn K (.ref fI) = some (.type "function") ∧ OexC K C ∧ mg x = some (.ref C) ∧ Binds K fd ps []
theorem Xal.mono {P : Program} {w : World} {K : PySem.W.Frag} {mg : Str → Option Value} {base : Heap} {i k : Nat} (c : Xal P w K mg base i x C sp) (h : i ≤ k) : Xal P w K mg base k x C sp := by
  obtain ⟨j, f, fd, ps, hj, r⟩ := c.ex
  exact ⟨j, f, fd, ps, Nat.le_trans hj h, r⟩
/-- raise C(e, ..) -/
def tRaiseI (C : Addr) (sp : Sp) (E : XK) (ta : TA) : TS := fun _ σ H => tMkO C sp [] ta σ H fun cls d H' => E cls d H'
theorem ps_raiseI (hc : X.calm = true) (tk : Takes X (fun cls d _ H => E cls d H)) (c : Xal X.prog X.w X.K X.mg X.base k x C sp) (hr : Room k X.A) (hg : Gl X x) (ha : PA X (e :: es) ta)
    (hdb : (x == ("__debug__" : Str)) = false := by decide) (he : starEach (e :: es) X.env = (false, eval e X.env) :: starEach es X.env := by rfl) (hpl : (backTo pos (starEach es X.env)).any (·.1) = false := by rfl) :
    PS X (.Raise (some (.Call (.Name x p) (e :: es) [] pos)) none pos2) (tRaiseI C sp E ta) := by
  obtain ⟨j, fI, fd, ps, hj, F, iC, tI, T, hm, b⟩ := c.ex
  exact ps_raise hc tk (pmk_oex T iC tI F (hr.mono hj) b .nil pass0 hg hm ha hdb he hpl)
/-! ### calls of defs that let errors out -/
structure CalX (P : Program) (w : World) (K : PySem.W.Frag) (mg : Str → Option Value) (base : Heap) (k : Nat) (x : Str) (sp : Sp) : Prop where
  ex : ∃ (f : Addr) (fd : FuncData) (ps : List Str), FnOk P w K mg base (L2.CX P w) k f fd ps sp ∧ mg x = some (.ref f) ∧ PySem.W.keepIn K (.ref f) = true ∧ Binds K fd ps []
theorem CalX.mono {P : Program} {w : World} {K : PySem.W.Frag} {mg : Str → Option Value} {base : Heap} {i k : Nat} (c : CalX P w K mg base i x sp) (h : i ≤ k) : CalX P w K mg base k x sp := by
  obtain ⟨f, fd, ps, F, a, b, d⟩ := c.ex
  exact ⟨f, fd, ps, F.mono h, a, b, d⟩
theorem calx_mk {P : Program} {w : World} {K : PySem.W.Frag} {mg : Str → Option Value} {base : Heap} {params : Arguments} {body : List Stmt} {scope : Scope} {f : Addr} {fd : FuncData} {N ps : List Str} (F : FunD K x x params body scope [] [] f fd) (hm : mg x = some (.ref f)) (S : FnScope N ps scope)
    (b : Binds K fd ps []) (len : ∀ vs H Q E, sp vs H Q E → vs.length = ps.length)
    (hbody : ∀ (cdv : Value) (A : Around) (outer : List Env) (s : Shared) (H : Hp) (vs : List V) (Q : VK) (E : XK), Room k (A.deeper (envOfC x scope s.heap.objs.size f cdv)) → sp vs H Q E →
      ∃ t, PSs (cxOf (L2.CX P w) P w K mg base N x scope f cdv A outer s H E) body t ∧ t { nx := fun _ H' => Q .non H', rt := Q } (start N vs) H) : CalX P w K mg base (k + 1) x sp :=
  ⟨f, fd, ps, F.ok S len hbody, hm, F.kp, b⟩
theorem xal_mk {P : Program} {w : World} {K : PySem.W.Frag} {mg : Str → Option Value} {base : Heap} {q : Str} {params : Arguments} {body : List Stmt} {scope : Scope} {f : Addr} {fd : FuncData} {N ps : List Str} (F : FunD K "__init__" q params body scope [] [] f fd)
    (iC : PySem.W.findIn K (.ref C) "__init__" = some (some (.ref f))) (tI : PySem.W.typeIn K (.ref f) = some (.type "function")) (T : OexC K C) (hm : mg x = some (.ref C)) (S : FnScope N ps scope)
    (b : Binds K fd ps []) (len : ∀ vs H Q E, sp vs H Q E → vs.length = ps.length)
    (hbody : ∀ (cdv : Value) (A : Around) (outer : List Env) (s : Shared) (H : Hp) (vs : List V) (Q : VK) (E : XK), Room k (A.deeper (envOfC q scope s.heap.objs.size f cdv)) → sp vs H Q E →
      ∃ t, PSs (cxOf CX0 P w K mg base N q scope f cdv A outer s H E) body t ∧ t { nx := fun _ H' => Q .non H', rt := Q } (start N vs) H) : Xal P w K mg base (k + 2) x C sp :=
  ⟨k + 1, f, fd, ps, Nat.le_refl _, F.ok S len hbody, iC, tI, T, hm, b⟩
theorem pe_calx (c : CalX X.prog X.w X.K X.mg X.base k x sp) (hr : Room k X.A) (hg : Gl X x) (tk : Takes X W) (ha : PA X (e :: es) ta)
    (hdb : (x == ("__debug__" : Str)) = false := by decide) (he : starEach (e :: es) X.env = (false, eval e X.env) :: starEach es X.env := by rfl) (hpl : (backTo pos (starEach es X.env)).any (·.1) = false := by rfl) :
    PE X (.Call (.Name x p) (e :: es) [] pos) (tCallS sp (WE W) ta) := by
  obtain ⟨f, fd, ps, F, a, b, d⟩ := c.ex
  exact pe_callS F hr hg a b d (fun σ => passAt tk σ) ha hdb he hpl
/-- a call whose errors are the def's own -/
def tCallE (sp : Sp) (E : XK) (t : TA) : TE := tCallS sp (WE fun cls d _ H => E cls d H) t
theorem pe_calE (c : CalX X.prog X.w X.K X.mg X.base k x sp) (hr : Room k X.A) (hg : Gl X x) (tk : Takes X (fun cls d _ H => E cls d H)) (ha : PA X (e :: es) ta)
    (hdb : (x == ("__debug__" : Str)) = false := by decide) (he : starEach (e :: es) X.env = (false, eval e X.env) :: starEach es X.env := by rfl) (hpl : (backTo pos (starEach es X.env)).any (·.1) = false := by rfl) :
    PE X (.Call (.Name x p) (e :: es) [] pos) (tCallE sp E ta) := pe_calx c hr hg tk ha hdb he hpl
end
/-- isinstance, of anything plain, of a kept error -/
def rIsiX (K : PySem.W.Frag) : List V → Hp → VK → Prop := fun xs H Q => rIsi K xs H Q ∨ rIsX K xs H Q
theorem call_isiX {X : Cx} : CallR X (.builtin "isinstance") (rIsiX X.K) := CallR.or call_isi call_isX
/-- a try whose clause keeps the error -/
def tTryK (K : PySem.W.Frag) (c : Value) (i : Nat) (tb : WX → TS) (ts : Addr → Value → Option Addr → TS) : TS := fun D σ H => tb (wKeep K c i ts D) D σ H
/-- as PureOk, of a def that lets errors out -/
structure PureOkX (n : Nat) (sp : Sp) (t : XK → TS) (m : Nat) : Prop where
  len : ∀ vs H Q E, sp vs H Q E → vs.length = n
  run : ∀ vs H Q E, sp vs H Q E → t E { nx := fun _ H' => Q .non H', rt := Q } (startN m vs) H
/-! ### in steps -/
section
variable {K : PySem.W.Frag} {w : World} {H : Hp} {Q : VK} {σ : L2.St} {D : Ends} {E : XK} {C : Addr} {sp : Sp} {t : TA} {te : TE} {f : Str} {W : WX} {v : V}
theorem g_calS (h : t σ H fun vs H1 => sp vs H1 Q (WE W σ)) : tCallS sp (WE W) t σ H Q := h
theorem g_calE (h : t σ H fun vs H1 => sp vs H1 Q E) : tCallE sp E t σ H Q := h
theorem g_raiseO (h : E (.ref C) none H) : tRaiseO C E D σ H := h
theorem g_fldX (h : te σ H fun x H1 => FldX K f x H1 Q) : tFldX K f te σ H Q := h
/-- an error's __init__ with one field -/
def spXInit (K : PySem.W.Frag) (C : Addr) (f : Str) : Sp := fun vs H Q _ => ∃ (a : Addr) (v : V), vs = [.ref a, v] ∧ H a = some (exo a C none) ∧ ∀ dx, H dx = none → dx ≠ a → Q .non (upd (upd H dx (exd dx [(f, v)])) a (exo a C (some dx)))
def RaiseR (C : Addr) (sp : Sp) (E : XK) (vs : List V) (H1 : Hp) : Prop := vs.length ≤ 1000 ∧ ∀ a, H1 a = none → sp (.ref a :: (vs ++ [])) (upd H1 a (exo a C none))
  (fun v H2 => v = .non ∧ ∃ (d : Addr) (fs : List (Str × V)), H2 a = some (exo a C (some d)) ∧ H2 d = some (exd d fs) ∧ H1 d = none ∧ E (.ref C) (some d) (upd (del H2 a) d (.xd fs))) (fun _ _ _ => False)
theorem g_raiseI (h : t σ H fun vs H1 => RaiseR C sp E vs H1) : tRaiseI C sp E t D σ H := h
theorem g_raise1 (q : ∀ d H', H d = none → H' d = some (.xd [(f, v)]) → Same H H' → E (.ref C) (some d) H') : RaiseR C (spXInit K C f) E [v] H := by
  refine ⟨by show 1 ≤ 1000; decide, fun a ha => ⟨a, v, rfl, upd_same, fun dx hdx hne => ⟨rfl, dx, [(f, v)], upd_same, ?_, ?_, ?_⟩⟩⟩
  · rw [upd_ne hne, upd_same]
  · rw [upd_ne hne] at hdx
    exact hdx
  · rw [upd_ne hne] at hdx
    refine q dx _ hdx upd_same fun b o e => ?_
    have hb1 : b ≠ dx := fun z => by rw [z, hdx] at e; cases e
    have hb2 : b ≠ a := fun z => by rw [z, ha] at e; cases e
    rw [upd_ne hb1, del_ne hb2, upd_ne hb2, upd_ne hb1, upd_ne hb2]
    exact e
/-- self.f = e in such an __init__ -/
theorem g_ost1 {a : Addr} {o te : TE} (T : OexC K C) (hf : PySem.W.findIn K (.ref C) f = some none) (h : te σ H fun y H1 => o σ H1 fun x H2 => x = .ref a ∧ H2 a = some (exo a C none) ∧ ∀ dx, H2 dx = none → dx ≠ a → D.nx σ (upd (upd H2 dx (exd dx [(f, y)])) a (exo a C (some dx))))
    (mo : ∀ {Q Q' : VK} {σ : L2.St} {H : Hp}, (∀ v H, Q v H → Q' v H) → o σ H Q → o σ H Q') (me : ∀ {Q Q' : VK} {σ : L2.St} {H : Hp}, (∀ v H, Q v H → Q' v H) → te σ H Q → te σ H Q') : tOst K f o te D σ H :=
  me (fun y H1 h => mo (fun x H2 ⟨e, ha, q⟩ => ⟨a, C, e, T, hf, .inl ⟨ha, q⟩⟩) h) h
end
/-! ### the classes of errors, seen at once -/
def okName : Str := "name"
/-- what the laws ask of the classes: NoProgram with its text, Twice, Hidden, Stranger with a name -/
def errC (K : PySem.W.Frag) (c : Str) : Bool := exkB K (He.ga K c) && (decide (PySem.W.exmOne K (.ref (He.ga K c)) (.ref (He.ga K "LazyError")) = some true) && (decide (PySem.W.kitOne K (.ref (He.ga K c)) (.type "ValueError") = some true) &&
  ((["NoProgram", "Twice", "Hidden", "Stranger", "More", "NoRows", "NoText", "NoRow"] : List Str).all fun t => decide (PySem.W.kitOne K (.ref (He.ga K c)) (.ref (He.ga K t)) = some (decide (c = t))))))
def errI (K : PySem.W.Frag) (c : Str) : Bool := oexB K (He.ga K c) && (eqV (PySem.W.findIn K (.ref (He.ga K c)) "__init__") (some (some (.ref (He.ma K (He.ga K c) "__init__")))) && (decide (PySem.W.typeIn K (.ref (He.ma K (He.ga K c) "__init__")) = some (.type "function")) &&
  eqV (PySem.W.findIn K (.ref (He.ga K c)) "name") (some none)))
def errB (K : PySem.W.Frag) : Bool := (errC K "NoProgram" && (errC K "Twice" && (errC K "Hidden" && errC K "Stranger"))) && (PySem.W.excIn K (He.ga K "NoProgram") He.veBase "ValueError.__new__" && (errI K "Twice" && (errI K "Hidden" && errI K "Stranger")))
def Errs (K : PySem.W.Frag) : Prop := errB K = true
section
variable {K : PySem.W.Frag} {c : Str}
structure ErrC (K : PySem.W.Frag) (c : Str) : Prop where
  x : ExcK K (He.ga K c)
  lz : PySem.W.exmOne K (.ref (He.ga K c)) (.ref (He.ga K "LazyError")) = some true
  ve : PySem.W.kitOne K (.ref (He.ga K c)) (.type "ValueError") = some true
  is : ∀ t ∈ (["NoProgram", "Twice", "Hidden", "Stranger", "More", "NoRows", "NoText", "NoRow"] : List Str), PySem.W.kitOne K (.ref (He.ga K c)) (.ref (He.ga K t)) = some (decide (c = t))
structure ErrI (K : PySem.W.Frag) (c : Str) : Prop where
  o : OexC K (He.ga K c)
  i : PySem.W.findIn K (.ref (He.ga K c)) "__init__" = some (some (.ref (He.ma K (He.ga K c) "__init__")))
  ti : PySem.W.typeIn K (.ref (He.ma K (He.ga K c) "__init__")) = some (.type "function")
  nm : PySem.W.findIn K (.ref (He.ga K c)) "name" = some none
theorem errC_ok (h : errC K c = true) : ErrC K c := by
  unfold errC at h
  rw [Bool.and_eq_true, Bool.and_eq_true, Bool.and_eq_true, decide_eq_true_iff, decide_eq_true_iff, List.all_eq_true] at h
  obtain ⟨h1, h2, h3, h4⟩ := h
  exact ⟨exkB_ok h1, h2, h3, fun t ht => of_decide_eq_true (h4 t ht)⟩
theorem errI_ok (h : errI K c = true) : ErrI K c := by
  unfold errI eqV at h
  rw [Bool.and_eq_true, Bool.and_eq_true, Bool.and_eq_true, decide_eq_true_iff, decide_eq_true_iff, decide_eq_true_iff] at h
  obtain ⟨h1, h2, h3, h4⟩ := h
  exact ⟨oexB_ok h1, h2, h3, h4⟩
structure ErrsS (K : PySem.W.Frag) : Prop where
  p : ErrC K "NoProgram"
  t : ErrC K "Twice"
  h : ErrC K "Hidden"
  s : ErrC K "Stranger"
  q : PySem.W.excIn K (He.ga K "NoProgram") He.veBase "ValueError.__new__" = true
  ti : ErrI K "Twice"
  hi : ErrI K "Hidden"
  si : ErrI K "Stranger"
theorem Errs.s (e : Errs K) : ErrsS K := by
  unfold Errs errB at e
  simp only [Bool.and_eq_true] at e
  obtain ⟨⟨a, b, c, d⟩, f, g, h, i⟩ := e
  exact ⟨errC_ok a, errC_ok b, errC_ok c, errC_ok d, f, errI_ok g, errI_ok h, errI_ok i⟩
theorem Errs.x_NoProgram (e : Errs K) : ExcK K (He.ga K "NoProgram") := e.s.p.x
theorem Errs.q_NoProgram (e : Errs K) : PySem.W.excIn K (He.ga K "NoProgram") He.veBase "ValueError.__new__" = true := e.s.q
theorem Errs.i_Twice (e : Errs K) : PySem.W.findIn K (.ref (He.ga K "Twice")) "__init__" = some (some (.ref (He.ma K (He.ga K "Twice") "__init__"))) := e.s.ti.i
theorem Errs.ti_Twice (e : Errs K) : PySem.W.typeIn K (.ref (He.ma K (He.ga K "Twice") "__init__")) = some (.type "function") := e.s.ti.ti
theorem Errs.o_Twice (e : Errs K) : OexC K (He.ga K "Twice") := e.s.ti.o
theorem Errs.i_Hidden (e : Errs K) : PySem.W.findIn K (.ref (He.ga K "Hidden")) "__init__" = some (some (.ref (He.ma K (He.ga K "Hidden") "__init__"))) := e.s.hi.i
theorem Errs.ti_Hidden (e : Errs K) : PySem.W.typeIn K (.ref (He.ma K (He.ga K "Hidden") "__init__")) = some (.type "function") := e.s.hi.ti
theorem Errs.o_Hidden (e : Errs K) : OexC K (He.ga K "Hidden") := e.s.hi.o
theorem Errs.i_Stranger (e : Errs K) : PySem.W.findIn K (.ref (He.ga K "Stranger")) "__init__" = some (some (.ref (He.ma K (He.ga K "Stranger") "__init__"))) := e.s.si.i
theorem Errs.ti_Stranger (e : Errs K) : PySem.W.typeIn K (.ref (He.ma K (He.ga K "Stranger") "__init__")) = some (.type "function") := e.s.si.ti
theorem Errs.o_Stranger (e : Errs K) : OexC K (He.ga K "Stranger") := e.s.si.o
end
/-! ### list.count of flat values -/
section
variable {X : Cx}
def rCount (K : PySem.W.Frag) : V → List V → Hp → VK → Prop := fun x xs H Q => ∃ (a : Addr) (ys : List V) (y : V), x = V.ref a ∧ xs = [y] ∧ SqL K H a ys ∧ flatV y = true ∧ ys.all flatV = true ∧ Q (.int ((ys.countP fun z => L2.eqV z y : Nat) : Int)) H
theorem countP_eqU {x : V} : ∀ {xs : List V} {us : List Value}, Vals xs us → xs.all flatV = true → us.countP (eqU x) = xs.countP fun y => L2.eqV y x
  | _, _, .nil, _ => rfl
  | y :: xs, u :: us, .cons r t, f => by
    rw [List.all_cons, Bool.and_eq_true] at f
    rw [List.countP_cons, List.countP_cons, countP_eqU t f.2, eqU_of r f.1]
theorem mt_count : MtR X "list.count" (rCount X.K) := by
  intro pins s σ H x xs v us Q I rx rxs h
  obtain ⟨a, ys, y, rfl, rfl, hs, fy, fys, q⟩ := h
  cases rx
  cases rxs with
  | cons ry rt =>
    rename_i uy ut
    cases rt
    obtain ⟨its, rv, ⟨⟨cls, dd, data, sl⟩, n, ho, hc, hdn, hd⟩, hlen⟩ := I.list hs
    simp only at hc hd
    subst hc hd
    refine call_meets PySem.F.slot_list_count ⟨_, ho, rfl⟩ PySem.F.entry_list_count (PySem.F.args_list_count_2 _ _)
      (SeqAt.list_countAt a its.toArray n dd sl uy (eqU y)) ⟨ho, fun u' hu' => mem_eqAt ry fy rv fys u' (by simpa using hu'), ?_⟩
    have ec : its.toArray.toList.countP (eqU y) = ys.countP fun z => L2.eqV z y := countP_eqU rv fys
    refine ⟨.int ((ys.countP fun z => L2.eqV z y : Nat) : Int), H, I.tok _, ⟨s.toks, ?_⟩, q⟩
    show Value.int ((its.toArray.toList.countP (eqU y) : Nat) : Int) s.toks = Value.int _ s.toks
    rw [ec]
end
section
variable {K : PySem.W.Frag} {H : Hp} {Q : VK} {D : Ends} {σ : L2.St} {a C : Addr} {xs : List V} {y : V} {d : Option Addr} {c : V} {cv : Value} {b : Bool} {i : Nat} {tb : WX → TS} {ts : Addr → Value → Option Addr → TS}
theorem g_count (h : SqL K H a xs) (fy : flatV y = true) (fx : xs.all flatV = true) (q : Q (.int ((xs.countP fun z => L2.eqV z y : Nat) : Int)) H) : rCount K (.ref a) [y] H Q := ⟨a, xs, y, rfl, rfl, h, fy, fx, q⟩
theorem g_tryK {cc : Value} (h : tb (wKeep K cc i ts D) D σ H) : tTryK K cc i tb ts D σ H := h
/-- isinstance of a kept error, as a step -/
theorem g_isX (ha : H a = some (hxc a C d)) (hd : ∀ dd, d = some dd → ∃ fs, H dd = some (.xd fs)) (x : ExcK K C) (hc : ∀ u, RelV c u → u = cv) (k : PySem.W.kitOne K (.ref C) cv = some b) (q : Q (.bl b) H) : rIsiX K [.ref a, c] H Q :=
  .inr ⟨a, C, d, c, cv, b, rfl, ha, hd, x, hc, k, q⟩
theorem g_isXR {t : Addr} (ha : H a = some (hxc a C d)) (hd : ∀ dd, d = some dd → ∃ fs, H dd = some (.xd fs)) (x : ExcK K C) (k : PySem.W.kitOne K (.ref C) (.ref t) = some b) (q : Q (.bl b) H) : rIsiX K [.ref a, .ref t] H Q :=
  g_isX ha hd x (fun u r => r) k q
theorem g_isXT {t : String} (ha : H a = some (hxc a C d)) (hd : ∀ dd, d = some dd → ∃ fs, H dd = some (.xd fs)) (x : ExcK K C) (k : PySem.W.kitOne K (.ref C) (.type t) = some b) (q : Q (.bl b) H) : rIsiX K [.ref a, .ty t] H Q :=
  g_isX ha hd x (fun u r => r) k q
end
/-! ### a call of such a def where it lets nothing out -/
def WNo : WX := fun _ _ _ _ => False
def tCallN (sp : Sp) (t : TA) : TE := tCallS sp (WE WNo) t
theorem g_calN {sp : Sp} {t : TA} {σ : L2.St} {H : Hp} {Q : VK} (h : t σ H fun vs H1 => sp vs H1 Q (WE WNo σ)) : tCallN sp t σ H Q := h

/-! Methods that let errors out; errors with two fields; a text so many times. -/
open PySem L2 PyProof.Rows PySem.Spec
/-- a method that lets errors out -/
structure MCalX (P : Program) (w : World) (K : PySem.W.Frag) (mg : Str → Option Value) (base : Heap) (k : Nat) (C : Addr) (m : Str) (sp : Sp) : Prop where
  ex : ∃ (f : Addr) (fd : FuncData) (ps : List Str), FnOk P w K mg base (L2.CX P w) k f fd ps sp ∧ Meth K C m f ∧ Cls K C ∧ Binds K fd ps []
section
variable {P : Program} {w : World} {K : PySem.W.Frag} {mg : Str → Option Value} {base : Heap}
theorem MCalX.mono {j k : Nat} {C : Addr} {m : Str} {sp : Sp} (c : MCalX P w K mg base j C m sp) (h : j ≤ k) : MCalX P w K mg base k C m sp := by
  obtain ⟨f, fd, ps, F, a, b, d⟩ := c.ex
  exact ⟨f, fd, ps, F.mono h, a, b, d⟩
theorem mcalx_mk {m q : Str} {C : Addr} {params : Arguments} {body : List Stmt} {scope : Scope} {f : Addr} {fd : FuncData} {N ps : List Str} {k : Nat} {sp : Sp} (F : FunD K m q params body scope [] [] f fd) (hm : Meth K C m f) (hc : Cls K C) (S : FnScope N ps scope)
    (b : Binds K fd ps []) (len : ∀ vs H Q E, sp vs H Q E → vs.length = ps.length)
    (hbody : ∀ (cdv : Value) (A : Around) (outer : List Env) (s : Shared) (H : Hp) (vs : List V) (Q : VK) (E : XK), Room k (A.deeper (envOfC q scope s.heap.objs.size f cdv)) → sp vs H Q E →
      ∃ t, PSs (cxOf (L2.CX P w) P w K mg base N q scope f cdv A outer s H E) body t ∧ t { nx := fun _ H' => Q .non H', rt := Q } (start N vs) H) : MCalX P w K mg base (k + 1) C m sp :=
  ⟨f, fd, ps, F.ok S len hbody, hm, hc, b⟩
end
section
variable {X : Cx} {k : Nat} {m : Str} {C : Addr} {sp : Sp} {apos pos : Pos} {o e : Expr} {es : List Expr} {ta : TE} {t : TA} {E : XK}
theorem pe_mcalE {pl : Sem Bool} (he : PE X o ta) (c : MCalX X.prog X.w X.K X.mg X.base k C m sp) (hr : Room k X.A) (tk : Takes X (fun cls d _ H => E cls d H)) (ha : PA X (e :: es) t)
    (hst : starEach (e :: es) X.env = (false, eval e X.env) :: starEach es X.env := by rfl) (hpl : (backTo pos (starEach es X.env)).any (·.1) = false := by rfl)
    (ht : eval (.Call (.Attribute o m apos) (e :: es) [] pos) X.env = (do
      let ov ← eval o X.env
      standAt apos.atName
      let (f, first) ← holding [ov] (getMethod ov m pl)
      callWith pos f first (backTo pos (starEach (e :: es) X.env)) (backToKw pos (keywordEach [] X.env))) := by rfl) :
    PE X (.Call (.Attribute o m apos) (e :: es) [] pos) (tMeth C m sp [] E ta t) := by
  obtain ⟨f, fd, ps, F, hm, hc, b⟩ := c.ex
  exact pe_meth he hc hm F hr b .nil (passes_call tk fun _ _ _ _ h => h) ha hst hpl ht
theorem pe_mcalE0 {pl : Sem Bool} (he : PE X o ta) (c : MCalX X.prog X.w X.K X.mg X.base k C m sp) (hr : Room k X.A) (tk : Takes X (fun cls d _ H => E cls d H))
    (ht : eval (.Call (.Attribute o m apos) [] [] pos) X.env = (do
      let ov ← eval o X.env
      standAt apos.atName
      let (f, first) ← holding [ov] (getMethod ov m pl)
      callWith pos f first (backTo pos (starEach [] X.env)) (backToKw pos (keywordEach [] X.env))) := by rfl) :
    PE X (.Call (.Attribute o m apos) [] [] pos) (tMeth C m sp [] E ta tNil) := by
  obtain ⟨f, fd, ps, F, hm, hc, b⟩ := c.ex
  exact pe_meth0 he hc hm F hr b .nil (passes_call tk fun _ _ _ _ h => h) ht
end
/-! ### an error's __init__ with two fields -/
def spXInit2 (K : PySem.W.Frag) (C : Addr) (f g : Str) : Sp := fun vs H Q _ => ∃ (a : Addr) (v u : V), vs = [.ref a, v, u] ∧ H a = some (exo a C none) ∧ ∀ dx H', H dx = none → dx ≠ a → H' a = some (exo a C (some dx)) → H' dx = some (exd dx [(g, u), (f, v)]) → (∀ b o, b ≠ a → b ≠ dx → H b = some o → H' b = some o) → Q .non H'
section
variable {K : PySem.W.Frag} {w : World} {H : Hp} {Q : VK} {σ : L2.St} {D : Ends} {E : XK} {C : Addr} {f g : Str} {v u : V}
theorem g_raise2 (q : ∀ d H', H d = none → H' d = some (.xd [(g, u), (f, v)]) → Same H H' → E (.ref C) (some d) H') : RaiseR C (spXInit2 K C f g) E [v, u] H := by
  refine ⟨by show 2 ≤ 1000; decide, fun a ha => ⟨a, v, u, rfl, upd_same, fun dx H' hdx hne e1 e2 k => ⟨rfl, dx, [(g, u), (f, v)], e1, e2, ?_, ?_⟩⟩⟩
  · rw [upd_ne hne] at hdx
    exact hdx
  · rw [upd_ne hne] at hdx
    refine q dx _ hdx upd_same fun b o e => ?_
    have hb1 : b ≠ dx := fun z => by rw [z, hdx] at e; cases e
    have hb2 : b ≠ a := fun z => by rw [z, ha] at e; cases e
    rw [upd_ne hb1, del_ne hb2]
    exact k b o hb2 hb1 (by rw [upd_ne hb2]; exact e)
/-- self.f = x; self.g = y in such an __init__ -/
theorem init2 (T : OexC K C) (hf : PySem.W.findIn K (.ref C) f = some none) (hg : PySem.W.findIn K (.ref C) g = some none) : PureOk 3 (spXInit2 K C f g) (tSeq (tOst K f (tVar 0) (tVar 1)) (tOst K g (tVar 0) (tVar 2))) 3 := by
  refine ⟨fun vs H Q E ⟨_, _, _, e, _⟩ => by rw [e]; rfl, ?_⟩
  rintro vs H Q E ⟨a, v, u, rfl, ha, q⟩
  refine ⟨v, rfl, .ref a, rfl, a, C, rfl, T, hf, .inl ⟨ha, fun dx hdx hne => ?_⟩⟩
  refine ⟨u, rfl, .ref a, rfl, a, C, rfl, T, hg, .inr ⟨dx, [(f, v)], upd_same, ?_, by show 1 ≤ 900; decide, ?_⟩⟩
  · rw [upd_ne hne, upd_same]
  · refine q dx _ hdx hne ?_ upd_same fun b o h1 h2 e => ?_
    · rw [upd_ne hne.symm, upd_same]
    · rw [upd_ne h2, upd_ne h1, upd_ne h2]
      exact e
end
/-! ### NoText: what its raise and its look want -/
def errT (K : PySem.W.Frag) : Bool := errC K "NoText" && (oexB K (He.ga K "NoText") && (eqV (PySem.W.findIn K (.ref (He.ga K "NoText")) "__init__") (some (some (.ref (He.ma K (He.ga K "NoText") "__init__")))) && (decide (PySem.W.typeIn K (.ref (He.ma K (He.ga K "NoText") "__init__")) = some (.type "function")) &&
  (eqV (PySem.W.findIn K (.ref (He.ga K "NoText")) "row") (some none) && eqV (PySem.W.findIn K (.ref (He.ga K "NoText")) "word") (some none)))))
structure ErrT (K : PySem.W.Frag) : Prop where
  c : ErrC K "NoText"
  o_NoText : OexC K (He.ga K "NoText")
  i_NoText : PySem.W.findIn K (.ref (He.ga K "NoText")) "__init__" = some (some (.ref (He.ma K (He.ga K "NoText") "__init__")))
  ti_NoText : PySem.W.typeIn K (.ref (He.ma K (He.ga K "NoText") "__init__")) = some (.type "function")
  row : PySem.W.findIn K (.ref (He.ga K "NoText")) "row" = some none
  word : PySem.W.findIn K (.ref (He.ga K "NoText")) "word" = some none
theorem errT_ok {K : PySem.W.Frag} (h : errT K = true) : ErrT K := by
  unfold errT eqV at h
  rw [Bool.and_eq_true, Bool.and_eq_true, Bool.and_eq_true, Bool.and_eq_true, Bool.and_eq_true, decide_eq_true_iff, decide_eq_true_iff, decide_eq_true_iff, decide_eq_true_iff] at h
  obtain ⟨h1, h2, h3, h4, h5, h6⟩ := h
  exact ⟨errC_ok h1, oexB_ok h2, h3, h4, h5, h6⟩
/-! ### a text so many times, by its length -/
def rMulS : R2 := fun x y H Q => ∃ s k, x = .str s ∧ y = .int k ∧ -10000 ≤ k ∧ k ≤ 10000 ∧ s.length ≤ 100 ∧ ∀ z : Str, z.length ≤ s.length * k.toNat → Q (.str z) H
theorem foldl_app (xs : Array Nat) : ∀ (n : Nat) (a : Array Nat), ((List.replicate n xs).foldl (· ++ ·) a).size = a.size + n * xs.size
  | 0, a => by simp
  | n + 1, a => by
    rw [List.replicate_succ, List.foldl_cons, foldl_app xs n, Array.size_append, Nat.succ_mul]
    omega
theorem op_mulS {X : Cx} : OpR X (binaryOp .Mult) rMulS := by
  intro pins s σ H x y v u Q I rx ry h
  obtain ⟨z, k, rfl, rfl, h1, h2, hl, q⟩ := h
  obtain ⟨t, rfl⟩ := rx
  obtain ⟨t2, rfl⟩ := ry
  refine PySem.P.mul_str ?_ ?_ ?_ ?_
  · rw [decide_eq_false (by omega), decide_eq_false (by omega)]; rfl
  · intro hk _ hc
    have : (100 : Int) ≤ (2 ^ 63 - 1) / k := Int.le_ediv_of_mul_le (by omega) (by omega)
    omega
  · intro hk _
    have h3 : z.length * k.toNat ≤ 100 * 10000 := Nat.mul_le_mul hl (by omega)
    show decide (_ > sizeLine) = false
    exact decide_eq_false (by show ¬ _ > 16777216; omega)
  · split
    · rename_i hk
      refine ⟨by decide, .str Str.empty, H, I.tok _, ⟨_, rfl⟩, q _ (Nat.zero_le _)⟩
    · rename_i hk
      split
      · rename_i h1
        refine ⟨.str z, H, I.tok _, ⟨_, rfl⟩, q z ?_⟩
        exact Nat.le_mul_of_pos_right _ (by omega)
      · have hsz : (Str.mk ((List.replicate k.toNat z.cps).foldl (· ++ ·) #[])).length = k.toNat * z.length := by
          show ((List.replicate k.toNat z.cps).foldl (· ++ ·) #[]).size = _
          rw [foldl_app]
          show 0 + _ = _
          rw [Nat.zero_add]
          rfl
        have h3 : z.length * k.toNat ≤ 100 * 10000 := Nat.mul_le_mul hl (by omega)
        refine ⟨?_, .str _, H, I.tok _, ⟨_, rfl⟩, q _ ?_⟩
        · rw [hsz, Nat.mul_comm]
          show _ ≤ 16777216
          omega
        · rw [hsz, Nat.mul_comm]
          exact Nat.le_refl _

/-! A list comprehension whose element may let an error out. -/
open PySem L2 PyProof.Rows PySem.Spec
/-- the block's context: what a call within it lets out is told as it was -/
abbrev blkX (X : Cx) (E : XK) (s : Shared) (H : Hp) (scope : Scope) (cenv : Env) (fp : List Addr) : Cx :=
  { X.blk s H scope cenv fp with xe := fun u s' => ∃ (pp : List (Addr × Obj)) (σ : L2.St) (H' : Hp) (s0 : Shared), Inv (X.blk s H scope cenv fp) pp σ H' s0 ∧ L2.CX X.prog X.w X.stack H' s0 E u s' }
theorem inv_xe {X : Cx} {f : Value → Shared → Prop} {pp : List (Addr × Obj)} {σ : L2.St} {H : Hp} {s : Shared} (I : Inv X pp σ H s) : Inv { X with xe := f } pp σ H s := by
  obtain ⟨⟨a1, a2, a3, a4, a5, a6, a7, a8, a9, a10, a11, a12, a13, a14, a15, a16, a17, a18⟩, b1, b2, b3, b4, b5, b6, b7, b8, b9, b10⟩ := I
  exact ⟨⟨a1, a2, a3, a4, a5, a6, a7, a8, a9, a10, a11, a12, a13, a14, a15, a16, a17, a18⟩, b1, b2, b3, b4, b5, b6, b7, b8, b9, b10⟩
theorem inv_xe' {X : Cx} {f : Value → Shared → Prop} {pp : List (Addr × Obj)} {σ : L2.St} {H : Hp} {s : Shared} (I : Inv { X with xe := f } pp σ H s) : Inv X pp σ H s := by
  obtain ⟨⟨a1, a2, a3, a4, a5, a6, a7, a8, a9, a10, a11, a12, a13, a14, a15, a16, a17, a18⟩, b1, b2, b3, b4, b5, b6, b7, b8, b9, b10⟩ := I
  exact ⟨⟨a1, a2, a3, a4, a5, a6, a7, a8, a9, a10, a11, a12, a13, a14, a15, a16, a17, a18⟩, b1, b2, b3, b4, b5, b6, b7, b8, b9, b10⟩
theorem passes_blk {X : Cx} {E : XK} {s : Shared} {H : Hp} {scope : Scope} {cenv : Env} {fp : List Addr} : Passes (L2.CX X.prog X.w) (blkX X E s H scope cenv fp) E :=
  fun pp σ H' s0 _ _ I c => ⟨pp, σ, H', s0, inv_xe' I, c⟩
/-- a raising method, called in such a block -/
theorem pe_mcalP {X : Cx} {k : Nat} {m : Str} {C : Addr} {sp : Sp} {apos pos : Pos} {o e : Expr} {es : List Expr} {ta : TE} {t : TA} {E : XK} {pl : Sem Bool} (he : PE X o ta) (c : MCalX X.prog X.w X.K X.mg X.base k C m sp) (hr : Room k X.A)
    (hp : Passes (L2.CX X.prog X.w) X E) (ha : PA X (e :: es) t)
    (hst : starEach (e :: es) X.env = (false, eval e X.env) :: starEach es X.env := by rfl) (hpl : (backTo pos (starEach es X.env)).any (·.1) = false := by rfl)
    (ht : eval (.Call (.Attribute o m apos) (e :: es) [] pos) X.env = (do
      let ov ← eval o X.env
      standAt apos.atName
      let (f, first) ← holding [ov] (getMethod ov m pl)
      callWith pos f first (backTo pos (starEach (e :: es) X.env)) (backToKw pos (keywordEach [] X.env))) := by rfl) :
    PE X (.Call (.Attribute o m apos) (e :: es) [] pos) (tMeth C m sp [] E ta t) := by
  obtain ⟨f, fd, ps, F, hm, hc, b⟩ := c.ex
  exact pe_meth he hc hm F hr b .nil hp ha hst hpl ht
section
variable {M : Model} {A : Around} {E : Value → Shared → Prop} {s : Shared} {env : Env}
theorem note_alike {e1 e2 : Env} (h : e1.frame = e2.frame) (x : Value) : noteFrame x e1 = noteFrame x e2 := by
  unfold noteFrame PySem.frameOf
  rw [h]
/-- what comes of the block, for the block's own env -/
def CompR (M : Model) (A : Around) (E : Value → Shared → Prop) (Q : Value → Shared → Prop) (acc : Value) (ce : Env) (r : Result) (t : Shared) : Prop :=
  ∃ m, t.heap.Ns ce.locals m ∧ ∀ h', Heap.SameBut ce.locals t.heap h' → match r with
    | .ok _ => Q acc { t with heap := h' }
    | .error x => wpAny M A (passOn "comprehension.variables-let-go" x ce : Sem Value) (fun _ _ => False) E { t with heap := h' }
/-- a comprehension's parts -/
theorem comp_any {e : Expr} {scope : Scope} {pos : Pos} {na first : Sem Value} {g : Comprehension} {gs : List Comprehension} {cl : List (Str × Addr)} {Q : Value → Shared → Prop}
    (h1 : clausesOf e = g :: gs) (h2 : ∀ x, foldedSetIterable g.iter env x = pure x) (h3 : closureFor scope env = pure cl) (h4 : scope.kind = .function)
    (h5 : ∀ x ∈ scope.names, x.2 = .local → scope.names.lookup x.1 = some .local)
    (h : wpAny M A first (fun x t1 => wpAny M A (pyIter x) (fun it t2 => wpAny M A na (fun acc t3 =>
      wpAny M A (newFunctionEnv scope env.globals cl [] env.qual none .none (some env)) (fun ce t4 =>
        codeAny M A (.compStart e 0 it acc { ce with scope := relabel scope env }) (CompR M A E Q acc { ce with scope := relabel scope env }) t4) E t3) E t2) E t1) E s) :
    wpAny M A (comprehension e scope env pos na false first none) Q E s := by
  unfold comprehension
  rw [h3, h1]
  refine wpAny_bind (thn h fun x t1 k1 => wpAny_bind (wpAny_standAt (wpAny_bind (wpAny_of_eq (h2 x) ?_))))
  refine wpAny_bind (wpAny_holding (thn k1 fun it t2 k2 => wpAny_standIf (wpAny_bind (thn k2 fun acc t3 k3 => ?_))))
  refine wpAny_bind (wpAny_pure (wpAny_bind (thn k3 fun ce t4 k4 => ?_)))
  dsimp only
  have own : ∀ x ∈ (scope.names.filter fun x => (x.2 == .local || x.2 == .cell) && x.1 != (".0" : Str)).reverse, x.2 = .local → Env.kindOf { ce with scope := relabel scope env } x.1 = some .local := fun x hx hl => by
    have hm := (List.mem_filter.mp (List.mem_reverse.mp hx)).1
    exact lookup_relabel_local (h5 x hm hl)
  refine wpAny_holding (wpAny_bind (wpAny_attempt (wpAny_holding (wpAny_run (codeAny_mono k4 fun r t5 k5 => ?_)))))
  obtain ⟨m, n5, k5⟩ := k5
  cases r with
  | ok f => exact wpAny_bind (wpAny_holding (wpAny_comp_letGo (cenv := { ce with scope := relabel scope env }) h4 _ t5 m own n5 fun h' _ _ sb => wpAny_pure (k5 h' sb)))
  | error x => exact wpAny_bind (wpAny_holding (wpAny_comp_letGo (cenv := { ce with scope := relabel scope env }) h4 _ t5 m own n5 fun h' _ _ sb => wpAny_mono (k5 h' sb) (fun _ _ f => f.elim) fun _ _ y => y))
end
section
variable {X : Cx} {E : XK} {C : Addr}
/-- an error that is noted at the def's frame -/
def Held (X : Cx) (W : WX) (u : Value) (s : Shared) : Prop :=
  ∃ (a : Addr) (B : Heap) (sI : Shared) (pp : List (Addr × Obj)) (σ : L2.St) (H : Hp) (cls : Value) (d : Option Addr),
    u = .ref a ∧ Inv X pp σ H sI ∧ (∀ b o, sI.heap.get? b = some o → b ∉ frs X.stack → B.get? b = some o) ∧ sI.heap.UpToSlots s.heap ∧
      HandSPX.HeldZ B X.stack a (Zc cls d) X.env.locals s.heap ∧ H a = none ∧ s.os = sI.os ∧ AllBare s.gens ∧ W cls d σ H
theorem note_held {W : WX} {u : Value} {s : Shared} {E1 : Value → Shared → Prop} (hs : X.stack = X.env :: X.outer) (hf : X.env.frame = some X.env.locals) (x : XE X W u s) :
    wpAny (model X.prog X.w) X.A (noteFrame u X.env) (fun _ t => s.heap.UpToSlots t.heap ∧ Held X W u t) E1 s := by
  obtain ⟨a, B, sI, pp, σ, H, cls, d, rfl, I, nb, up, sky, na, os, ag, w⟩ := x
  have fr : X.A.frames = some (X.env :: X.outer) := I.ok.frames.trans (congrArg some hs)
  have fin : ∀ h', HandSPX.HeldZ B (X.env :: X.outer) a (Zc cls d) X.env.locals h' → s.heap.UpToSlots h' → s.heap.UpToSlots h' ∧ Held X W (.ref a) { s with heap := h' } := fun h' hh u' =>
    ⟨u', a, B, sI, pp, σ, H, cls, d, rfl, I, nb, up.trans u', by rw [hs]; exact hh, na, os, ag, w⟩
  rw [hs] at sky
  rcases sky with ⟨q1, q2, q3, oe, vs, q4, q5, q6, q7⟩ | fl | hh
  · exact HandSPX.look_newZ Zc.steady fr q3 hf q4 q1 q2 q6 q7 q5 fin
  · exact HandSPX.looks_onZ Zc.steady fr hf fl fin
  · exact HandSPX.againZ hf hh.2.2.2 (fin s.heap hh (Heap.UpToSlots.refl _))
/-- the block's variables are let go, the error goes on -/
theorem held_on {W : WX} {u : Value} {s : Shared} {h' : Heap} {ce : Env} {what : String} {oC : Obj} (tk : Takes X W) (hfr : ce.frame = some X.env.locals)
    (hx : Held X (fun cls d σ H => W cls d σ H ∧ H C = none) u s) (oc : s.heap.get? C = some oC) (nf : ∀ vs, oC.data ≠ .fields vs) (fc : FpOk X [] (fun _ => none) C) (sb : Heap.SameBut C s.heap h') :
    wpAny (model X.prog X.w) X.A (passOn what u ce : Sem Value) (fun _ _ => False) X.xe { s with heap := h' } := by
  obtain ⟨a, B, sI, pp, σ, H, cls, d, rfl, I, nb, up, ⟨kb, an, ff, oe, vs, T, oT, ts, ha, hz, hd, v1, Tn, Ta, hT, dT, t3⟩, na, os, ag, w, nC⟩ := hx
  obtain ⟨_, f1, f2, f3, f4, f5⟩ := fc
  have aC : a ≠ C := fun z => by
    rw [z, oc] at ha
    cases ha
    exact nf _ hd
  have TC : T ≠ C := fun z => by
    rw [z, oc] at hT
    cases hT
    exact nf _ dT
  have at' : ∀ b, b ≠ C → h'.get? b = s.heap.get? b := fun b hb => sb.2 b hb
  have hid : ∀ (G : Heap) b o, (PySem.W.hideAll G [C]).get? b = some o → b ≠ C ∧ G.get? b = some o := fun G b o e =>
    ⟨fun z => absurd (show (PySem.W.hideAll G [C]).get? C = none from PySem.W.hideAll_none [C] (List.mem_singleton.mpr rfl)) (by rw [z] at e; rw [e]; simp), PySem.W.of_hideAll _ e⟩
  have hid' : ∀ (G : Heap) b o, b ≠ C → G.get? b = some o → (PySem.W.hideAll G [C]).get? b = some o := fun G b o n e =>
    PySem.W.hideAll_get _ e fun z => n (List.mem_singleton.mp z)
  have nst : C ∉ frs X.stack := fun hm => (List.mem_cons.mp (I.stkSub C hm)).elim f1 f2
  have kb' : (PySem.W.hideAll B [C]).StaysIn h' := fun b o e => by
    obtain ⟨n, e⟩ := hid _ b o e
    rw [at' b n]
    exact kb b o e
  have no : ∀ b, B.get? b = none → (PySem.W.hideAll B [C]).get? b = none := fun b n => by
    cases e : (PySem.W.hideAll B [C]).get? b with
    | none => rfl
    | some o =>
      have z := (hid _ b o e).2
      rw [n] at z
      cases z
  have ff' : h'.FunFrames (PySem.W.hideAll B [C]) X.stack := by
    refine funFrames_none (base := B) ?_ fun L hL => no L (ff.mem hL).1
    refine Heap.FunFrames.of_keeps (h := PySem.W.hideAll s.heap [C]) (fun b o e _ => ?_) (PySem.W.funFrames_hideAll ff fun env he q hq z => ?_)
    · obtain ⟨n, e⟩ := hid _ b o e
      exact ⟨o, (at' b n).trans e, rfl⟩
    · have e : q = C := List.mem_singleton.mp hq
      rw [e] at z
      exact nst (List.mem_filterMap.mpr ⟨env, he, z⟩)
  have tr' : HandSPX.TracedZ h' (PySem.W.hideAll B [C]) a (Zc cls d) (rawInt X.env.locals) :=
    ⟨oe, vs, T, oT, ts, (at' a aC).trans ha, hz, hd, v1, no T Tn, Ta, (at' T TC).trans hT, dT, t3⟩
  have fin : wpAny (model X.prog X.w) X.A (setFlight (.ref a) ce.frame) (fun _ t => wpAny (model X.prog X.w) X.A (throw (.ref a) : Sem Value) (fun _ _ => False) X.xe t) X.xe { s with heap := h' } := by
    rw [hfr]
    refine HandSPX.setFlight_anyZ (fr := some X.env.locals) kb' ff' tr' fun h4 k1 k2 k3 k4 => wpAny_throw (tk _ _ ?_)
    have I' := (I.pins_of (pins' := []) fun p hp => absurd hp (by simp)).turned (it := C) (t' := sI.toks) (h' := PySem.W.hideAll sI.heap [C]) (fun b o n e => hid' _ b o n e) nC f1 f3 f4 f5
    refine ⟨a, PySem.W.hideAll B [C], { sI with heap := PySem.W.hideAll sI.heap [C] }, [], σ, H, cls, d, rfl, I', fun b o e nm => ?_, fun b o e nfb => ?_, .inr (.inr ⟨k1, no a an, k2, k3⟩), na, os, ag, w⟩
    · obtain ⟨n, e⟩ := hid _ b o e
      exact hid' _ b o n (nb b o e nm)
    · obtain ⟨n, e⟩ := hid _ b o e
      obtain ⟨sl, e2⟩ := up b o e nfb
      exact k4 b { o with slots := sl } ((at' b n).trans e2) nfb |>.imp fun _ z => z
  unfold PySem.passOn
  refine wpAny_bind (wpAny_field ((at' a aC).trans ha) hd v1 ?_)
  rw [if_neg (show ¬ ((Value.ref T == Value.none) = true) from by simp)]
  first
    | exact wpAny_bind (wpAny_pure (wpAny_bind fin))
    | exact wpAny_bind fin
theorem thnE {α : Type} {t : Sem α} {Q Q' : α → Shared → Prop} {M : Model} {A : Around} {E1 E2 : Value → Shared → Prop} {s : Shared} (h : wpAny M A t Q E1 s) (he : ∀ e s, E1 e s → E2 e s) (hq : ∀ a s, Q a s → Q' a s) : wpAny M A t Q' E2 s := wpAny_mono h hq he
/-- as pe_lc, where the element may let an error out by E -/
theorem pe_lcX {elt tg iter : Expr} {ifs : List Expr} {scope : Scope} {own : List (Str × Nat)} {pos : Pos} {wi : TI} {g : TG} {tt : TT} {te : TE} (tk : Takes X (fun cls d _ H => E cls d H)) (hst : X.stack = X.env :: X.outer) (hfm : X.env.frame = some X.env.locals)
    (hc : X.calm = true) (hN : X.N.Nodup) (hi : PI X tg iter wi) (ok : BlkOk X.N X.env.scope scope own)
    (hg : ∀ (s : Shared) (H : Hp) (C : Addr) (cl : List (Str × Addr)) (fp : List Addr), PG (blkX X E s H scope (compEnvC scope cl C X.env) fp) tg g)
    (ht : ∀ (s : Shared) (H : Hp) (C : Addr) (cl : List (Str × Addr)) (fp : List Addr), PTs (blkX X E s H scope (compEnvC scope cl C X.env) fp) ifs tt)
    (he : ∀ (s : Shared) (H : Hp) (C : Addr) (cl : List (Str × Addr)) (fp : List Addr), PE (blkX X E s H scope (compEnvC scope cl C X.env) fp) elt te) (hs : ∀ x, foldedSetIterable iter X.env x = pure x := by intro _; rfl) :
    PE X (.ListComp elt [⟨tg, iter, ifs, 0⟩] scope pos) (tLc wi g tt te (own.map (·.2))) := by
  refine ⟨fun pins s σ H Q I h => ?_⟩
  rw [eval_ListComp]
  have cells : ∀ y ∈ scope.names, y.2 = .free → ∃ c, X.env.cells.lookup y.1 = some c := fun y hy e => (ok.free y hy e).elim (fun k => I.ok.has _ (.inl k)) fun k => I.ok.has _ (.inr k)
  refine comp_any rfl hs (closure_ok cells) ok.kind (fun y hy e => (ok.uniq y hy).trans (congrArg some e)) ?_
  refine thn (hi.run pins s σ H _ I h) fun xv t1 k1 => thn k1 fun itv t2 k2 => ?_
  obtain ⟨it, fp, tn, J, H2, rfl, I2, T, st2, f2, q⟩ := k2
  refine wpAny_newObj_type (newEnv_comp ?_) (by show 0 ≤ sizeLine; decide)
  generalize hD : t2.heap.objs.size = D
  have D0 : H2 D = none := I2.hok.fresh (Nat.le_of_eq hD)
  obtain ⟨W, ⟨m0, w0⟩, turn⟩ := q D D0
  generalize ht3 : ({ t2 with heap := t2.heap.push { cls := .type "list", data := .seq ([] : List Value).toArray } } : Shared) = t3
  have hp3 : t3.heap = t2.heap.push { cls := .type "list", data := .seq ([] : List Value).toArray } := by rw [← ht3]
  have kp3 : ∀ b o, t2.heap.get? b = some o → t3.heap.get? b = some o := fun b o e => by
    rw [hp3]
    exact Heap.get?_push_of_some _ e
  have I3 : Inv X pins σ (upd H2 D (.lst [])) t3 := by
    rw [← ht3]
    refine I2.laid (t' := t2.toks) (fun b o e => Heap.get?_push_of_some _ e) (Nat.le_of_eq hD) ⟨Nat.zero_le _, [], 0, .nil, ?_⟩
    rw [← hD]
    exact Heap.get?_push_size _ rfl
  have low : ∀ b ∈ fp, b < t2.heap.objs.size := fun b hb => (T.obj _ _ st2 b hb).elim fun o e => Heap.lt_size e.1
  have f3 : ∀ b ∈ fp, FpOk X pins (upd H2 D (.lst [])) b ∧ b < t3.heap.objs.size := fun b hb => by
    have z := low b hb
    refine ⟨⟨?_, (f2 b hb).2⟩, by rw [hp3, Heap.size_push]; exact Nat.lt_succ_of_lt z⟩
    rw [upd_ne (show b ≠ D from by rw [← hD]; exact Nat.ne_of_lt z)]
    exact (f2 b hb).1
  have st3 : tn 0 t3.heap := T.keep _ _ _ st2 fun b _ o e => kp3 b o e
  have I4 := block_start I3 ok hN f3
  have pg := hg t3 (upd H2 D (.lst [])) t3.heap.objs.size (cellsFrom (t3.heap.objs.size + 1) scope.names (cloFrom X.env.cells scope.names [])) fp
  have pt := ht t3 (upd H2 D (.lst [])) t3.heap.objs.size (cellsFrom (t3.heap.objs.size + 1) scope.names (cloFrom X.env.cells scope.names [])) fp
  have pe := he t3 (upd H2 D (.lst [])) t3.heap.objs.size (cellsFrom (t3.heap.objs.size + 1) scope.names (cloFrom X.env.cells scope.names [])) fp
  have fP : FpOk X pins (fun _ => none) t3.heap.objs.size := I3.fpOk (H' := fun _ => none) (Nat.le_refl _) rfl
  have fC : FpOk X [] (fun _ => none) t3.heap.objs.size := by
    obtain ⟨q0, q1, q2, q3, q4, q5⟩ := fP
    exact ⟨q0, q1, q2, q3, q4, fun p hp => q5 p (by simp only [List.append_nil] at hp; exact List.mem_append_left _ hp)⟩
  show codeAny (model X.prog X.w) X.A (.compStart (.ListComp elt [⟨tg, iter, ifs, 0⟩] scope pos) 0 (.ref it) (.ref D) (compEnvC scope (cellsFrom (t3.heap.objs.size + 1) scope.names (cloFrom X.env.cells scope.names [])) t3.heap.objs.size X.env))
    (CompR (model X.prog X.w) X.A X.xe (EP X pins σ Q) (.ref D) (compEnvC scope (cellsFrom (t3.heap.objs.size + 1) scope.names (cloFrom X.env.cells scope.names [])) t3.heap.objs.size X.env)) { t3 with heap := pushCells (t3.heap.push { cls := .type "dict", data := .dict #[] }) scope.names }
  generalize hce : compEnvC scope (cellsFrom (t3.heap.objs.size + 1) scope.names (cloFrom X.env.cells scope.names [])) t3.heap.objs.size X.env = ce at I4 pg pt pe ⊢
  have cL : ce.locals = t3.heap.objs.size := by subst hce; rfl
  have cF : ce.frame = X.env.frame := by subst hce; rfl
  generalize t3.heap.objs.size = C at cL fC fP
  generalize hH3 : upd H2 D (.lst []) = H3 at I3 I4 pg pt pe w0 f3
  generalize ht4 : ({ t3 with heap := pushCells (t3.heap.push { cls := .type "dict", data := .dict #[] }) scope.names } : Shared) = t4 at I4 ⊢
  have st4 : tn 0 t4.heap := T.keep _ _ _ st3 fun b _ o e => by
    rw [← ht4]
    exact pushCells_keeps _ _ _ _ (Heap.get?_push_of_some _ e)
  have clear0 : ∀ b ∈ fp, H3 b = none := fun b hb => (f3 b hb).1.1
  have stat : ∀ {τ : L2.St} {G : Hp} {t : Shared}, Inv (blkX X E t3 H3 scope ce fp) [] τ G t → (∀ b ∈ fp, G b = none) → ∀ b ∈ fp, FpOk (blkX X E t3 H3 scope ce fp) [] G b := fun {τ G t} J n b hb =>
    ⟨n b hb, (J.ok.exf b hb).1, J.ok.exfs b hb, .inl hb, fun x c e => (J.ok.exf b hb).2 x c e, fun p hp => absurd hp (show ¬ p ∈ ([] : List (Addr × Obj)) ++ [] by simp)⟩
  have back : ∀ {pp : List (Addr × Obj)} {τ : L2.St} {G : Hp} {t : Shared}, Inv (X.blk t3 H3 scope ce fp) pp τ G t → Inv X pins σ G t := fun {pp τ G t} J =>
    I3.call' (ch := fp) J.os J.base J.hok J.bare fun b hb => by
      obtain ⟨⟨_, q1, _, q3, q4, q5⟩, _⟩ := f3 b hb
      exact ⟨q3, q1, q4, q5⟩
  -- what an error of the element comes to
  have err : ∀ u t, (blkX X E t3 H3 scope ce fp).xe u t → notedBy (model X.prog X.w) X.A ce (fun e t' => CompR (model X.prog X.w) X.A X.xe (EP X pins σ Q) (.ref D) ce (.error e) t') u t := fun u t z => by
    obtain ⟨pp, τ, G, t0, J0, c⟩ := z
    have J := back J0
    have nC : G C = none := by
      have z : G ce.locals = none := J0.free
      rw [cL] at z
      exact z
    obtain ⟨m, ⟨oC, es, ep, oc, dC, rC⟩, _⟩ := J0.loc
    have oc : t0.heap.get? ce.locals = some oC := oc
    rw [cL] at oc
    have nst : C ∉ frs X.stack := fun hm => (List.mem_cons.mp (J.stkSub C hm)).elim fC.2.1 fC.2.2.1
    obtain ⟨a, B, G', cls, d, rfl, fl, hok, ub, na, os, ag, hE⟩ := c
    have c' : L2.CX X.prog X.w X.stack G t0 (fun cls d H => E cls d H ∧ H C = none) (.ref a) t := ⟨a, B, G', cls, d, rfl, fl, hok, ub, na, os, ag, hE, ub.free C oC oc nC⟩
    have x : XE X (fun cls d _ H => E cls d H ∧ H C = none) (.ref a) t := XE.of_call J (fun _ _ _ h => h) c'
    have oc' : t.heap.get? C = some oC := fl.1 C oC (ub.keep C oC oc nC nst)
    have nf : ∀ vs, oC.data ≠ .fields vs := fun vs z => by
      rw [dC] at z
      cases z
    show wpAny (model X.prog X.w) X.A (noteFrame (.ref a) ce) _ _ t
    rw [note_alike (e2 := X.env) cF]
    refine thn (note_held hst hfm x) fun _ t' ⟨up, hh⟩ => ?_
    obtain ⟨sl, oc2⟩ := up C oC oc' nf
    refine ⟨m, by rw [cL]; exact ⟨_, es, ep, oc2, dC, rC⟩, fun h' sb => ?_⟩
    exact held_on tk (cF.trans hfm) hh oc2 nf fC (by rw [← cL]; exact sb)
  have loop : codeAny (model X.prog X.w) X.A (.compLoop (.ListComp elt [⟨tg, iter, ifs, 0⟩] scope pos) 0 (.ref it) (.ref D) ce) (CompR (model X.prog X.w) X.A X.xe (EP X pins σ Q) (.ref D) ce) t4 := by
    refine compLoop_any (fun n t => ∃ i G, Inv (blkX X E t3 H3 scope ce fp) [] (wipe σ (own.map (·.2))) G t ∧ tn i t.heap ∧ (∀ b ∈ fp, G b = none) ∧ W i n G) ?_ m0 ⟨0, H3, inv_xe I4, st4, clear0, w0⟩
    rintro n t5 ⟨i, G5, I5, st5, n5, w5⟩
    rcases turn i n G5 w5 with ⟨stop, fin⟩ | ⟨go, Nx, less, step⟩
    · refine thnF (T.done (blkX X E t3 H3 scope ce fp) rfl rfl rfl hc i [] t5 _ G5 (fun _ _ => False) I5 (stat I5 n5) st5 stop) fun r t6 ⟨hr, I6⟩ => ?_
      subst hr
      have J6 := inv_xe' I6
      have I7 := back J6
      have nC : G5 C = none := by
        have z : G5 ce.locals = none := I6.free
        rw [cL] at z
        exact z
      obtain ⟨m, hn, _⟩ := I6.loc
      refine ⟨m, hn, fun h' sb => ⟨.ref D, G5, ?_, rfl, fin⟩⟩
      obtain ⟨_, q1, _, q3, q4, q5⟩ := fP
      exact I7.turned (t' := t6.toks) (fun b o hb e => (sb.2 b (by rw [cL]; exact hb)).trans e) nC q1 q3 q4 q5
    · refine thnF (T.item (blkX X E t3 H3 scope ce fp) rfl rfl rfl hc i [] t5 _ G5 (fun _ _ => False) I5 (stat I5 n5) st5 go) fun r t6 ⟨u, hr, k6⟩ => ?_
      subst hr
      refine thnF k6 fun _ t7 ⟨x, G7, I7, r7, y7, st7, n7⟩ => ?_
      have P7 := I7.pinned (stat I7 n7) (T.obj _ _ st7)
      refine thnE (pg.run _ t7 _ G7 x u _ P7 r7 (step x G7 y7)) err fun _ t8 ⟨τ, G8, I8, hw, q8⟩ => ?_
      refine thnE (pt.run _ t8 τ G8 _ I8 q8) err fun b t9 ⟨G9, I9, q9⟩ => ?_
      have turned : ∀ {t : Shared} {G : Hp}, Inv (blkX X E t3 H3 scope ce fp) ([] ++ pinsAt fp t7.heap) τ G t → Nx G →
          ∃ m, m < n ∧ ∃ i G, Inv (blkX X E t3 H3 scope ce fp) [] (wipe σ (own.map (·.2))) G t ∧ tn i t.heap ∧ (∀ b ∈ fp, G b = none) ∧ W i m G := fun {t G} J nx => by
        obtain ⟨m', hm, w'⟩ := less G nx
        have pin' : ∀ b ∈ fp, ∀ o, t7.heap.get? b = some o → t.heap.get? b = some o ∧ G b = none := fun b hb o e => by
          have z := J.pin (b, o) (List.mem_append_right _ (List.mem_append_right _ (mem_pinsAt hb e)))
          exact ⟨z.1, z.2.1⟩
        have len : (wipe σ (own.map (·.2))).length = τ.length := (wipe_length τ _).symm.trans (congrArg List.length hw) |>.symm
        refine ⟨m', hm, i + 1, G, (J.unpinned (pins := [])).weak len fun j v e => ?_, T.keep _ _ _ st7 fun b hb o e => (pin' b hb o e).1, fun b hb => ?_, w'⟩
        · rw [← hw] at e
          exact (wipe_some e).1
        · obtain ⟨o, e, _⟩ := T.obj _ _ st7 b hb
          exact (pin' b hb o e).2
      cases b with
      | false =>
        simp only [Bool.false_eq_true, if_false] at q9 ⊢
        exact turned I9 q9
      | true =>
        simp only [if_true] at q9 ⊢
        refine thnE (pe.run _ t9 τ G9 _ I9 q9) err fun z t10 ⟨y, G10, I10, r10, acc, hD10, hz10, nx⟩ => ?_
        exact app_ok (X := blkX X E t3 H3 scope ce fp) I10 hD10 hz10 r10 fun t11 I11 => turned I11 nx
  exact codeAny_compStart_list loop (T.self X.A 0 _ _ _ st4 loop)
end

local macro_rules | `(tactic| walk_at "g1") => `(tactic| first
  | with_reducible refine g_seq ?_ | with_reducible refine g_asg ?_ | with_reducible refine g_op ?_ | with_reducible refine g_ixop ?_ | ((with_reducible refine g_ixL (xs := ?gx) (v := ?gv) (SqL.of ?gh) ?ge ?_); (case gh => assumption); (case ge => exact rfl)) | with_reducible refine g_c ?_
  | ((with_reducible refine g_var (v := ?gv) ?gh ?_); (case gh => exact rfl))
  | ((with_reducible refine g_name (σ' := ?gs) ?gh ?_); (case gh => (dsimp only [List.set]; exact rfl)))
  | with_reducible refine g_cons ?_ | with_reducible refine g_nil ?_ | with_reducible refine g_ifs ?_ | with_reducible refine g_test ?_ | with_reducible refine g_bl ?_ | with_reducible refine g_cb ?_
  | with_reducible refine g_addI ?_ | with_reducible refine g_subI ?_ | with_reducible refine g_eqI ?_ | with_reducible refine g_eqS ?_ | with_reducible refine g_neI ?_ | with_reducible refine g_neS ?_
  | with_reducible refine g_ltI ?_ | with_reducible refine g_leI ?_ | with_reducible refine g_gtI ?_ | with_reducible refine g_geI ?_
  | with_reducible refine g_ret ?_ | with_reducible refine g_next ?_ | with_reducible refine g_call ?_ | with_reducible refine g_drop ?_ | with_reducible refine g_sub ?_
  | with_reducible refine g_and ?_ | with_reducible refine g_or ?_ | with_reducible refine g_not ?_ | with_reducible refine g_tru ?_ | with_reducible refine g_trubl ?_ | with_reducible refine g_truint ?_ | with_reducible refine g_ifx ?_
  | with_reducible refine g_abs ?_ | with_reducible refine g_max2 ?_ | with_reducible refine g_min2 ?_ | with_reducible refine g_intI ?_ | with_reducible refine g_intB ?_
  | with_reducible refine g_tup ?_ | with_reducible refine g_lst ?_ | ((with_reducible refine g_len ?gl ?_); (case gl => (show _ ≤ 16777216; simp only [List.length_cons, List.length_nil]; omega))) | with_reducible refine g_dnew ?_
  | with_reducible refine g_bm ?_ | with_reducible refine g_bm0 ?_ | with_reducible refine g_m1 ?_ | with_reducible refine g_isstr ?_ | with_reducible refine g_sl ?_ | with_reducible refine g_nopart ?_ | with_reducible refine g_part ?_ | with_reducible refine g_ispart ?_
  | with_reducible refine g_un ?_ | with_reducible refine g_neg ?_ | with_reducible refine g_andT ?_ | with_reducible refine g_orT ?_ | with_reducible refine g_notT ?_ | with_reducible refine g_rev ?_ | with_reducible refine g_par ?_ | with_reducible refine g_lc ?_ | with_reducible refine g_for ?_ | with_reducible refine g_rng1 ?_ | with_reducible refine g_yes ?_ | with_reducible refine g_isS ?_ | with_reducible refine g_disp ?_ | with_reducible refine g_pcons ?_ | with_reducible refine g_pnil ?_ | with_reducible refine g_get2 ?_)
local macro_rules | `(tactic| walk_at "go") => `(tactic| repeat walk_at "g1")

def topS (i : Nat) : Stmt := PySem.Challenge.pw_lazywebs_k73_texts_at_their_bounds.main.body.getD i (.Pass ⟨0, 0, 0, 0⟩)
/-! ### the head -/
def dd (x : Str) (i : Nat) : He.DefD := ⟨(x, none), x, x, defArgs (topS i), defBody (topS i), defScope (topS i), [], []⟩
def dm (c m q : Str) (i j : Nat) : He.DefD := ⟨(c, some m), m, q, defArgs (inClass (topS i) j), defBody (inClass (topS i) j), defScope (inClass (topS i) j), [], []⟩
def hfn : List He.DefD := [dm "Twice" "__init__" "Twice.__init__" 3 0, dm "Hidden" "__init__" "Hidden.__init__" 4 0, dm "Stranger" "__init__" "Stranger.__init__" 5 0, dm "NoText" "__init__" "NoText.__init__" 8 0, dd "is_name" 13, dd "is_whole" 14, dd "is_small" 15, dd "within" 16, dd "in_order" 17, dd "is_row" 24, dd "are_rows" 25, dd "parts_of" 26, dd "is_body" 27, dd "is_function" 28, dd "is_built" 29, dd "row_names" 30, dd "look_unlike" 31, dd "look_named" 32, dd "looked" 33, dd "is_figures" 36, dd "is_marked" 37, dm "PartReader" "__init__" "PartReader.__init__" 38 0, dm "PartReader" "refuse" "PartReader.refuse" 38 1, dm "PartReader" "now" "PartReader.now" 38 2, dm "PartReader" "mark" "PartReader.mark" 38 3, dm "PartReader" "begin" "PartReader.begin" 38 4, dm "PartReader" "let_rows" "PartReader.let_rows" 38 5, dm "PartReader" "part" "PartReader.part" 38 6, dm "PartReader" "whole" "PartReader.whole" 38 7, dd "read_part" 39, dd "read_function" 40, dd "read" 41, dd "_law_pen" 43, dd "_law_draw" 44, dd "_law_names" 45, dd "_law_base" 46, dd "_law_text" 47, dd "_law_is_name" 48, dd "_law_inner" 49, dd "_law_is_body" 50, dd "_law_is_function" 51, dd "_law_lets" 52, dd "_law_strange" 53, dd "_law_due" 54, dd "_law_figures" 55, dd "_law_marked" 56, dd "_law_part_wrong" 57, dd "_law_row_wrong" 58, dd "_law_built" 59, dd "_law_read" 60, dd "_law_reads" 61, dd "_law_right" 62, dd "_law_wide" 63, dd "_law_great" 64, dd "_law_by_rows" 65, dd "law" 66]
def hfa : List He.Fa := [.glo "is_name", .glo "is_whole", .glo "is_small", .glo "within", .glo "in_order", .glo "is_row", .glo "are_rows", .glo "parts_of", .glo "is_body", .glo "is_function", .glo "is_built", .glo "row_names", .glo "look_unlike", .glo "look_named", .glo "looked", .glo "is_figures", .glo "is_marked", .mkr "PartReader", .meth "PartReader" "refuse", .meth "PartReader" "now", .meth "PartReader" "mark", .meth "PartReader" "begin", .meth "PartReader" "let_rows", .meth "PartReader" "part", .meth "PartReader" "whole", .glo "read_part", .glo "read_function", .glo "read", .glo "_law_pen", .glo "_law_draw", .glo "_law_names", .glo "_law_base", .glo "_law_text", .glo "_law_is_name", .glo "_law_inner", .glo "_law_is_body", .glo "_law_is_function", .glo "_law_lets", .glo "_law_strange", .glo "_law_due", .glo "_law_figures", .glo "_law_marked", .glo "_law_part_wrong", .glo "_law_row_wrong", .glo "_law_built", .glo "_law_read", .glo "_law_reads", .glo "_law_right", .glo "_law_wide", .glo "_law_great", .glo "_law_by_rows", .glo "law", .glo "Twice", .glo "Hidden", .glo "Stranger", .glo "NoText", .glo "NoProgram", .glo "LazyError", .glo "More", .glo "NoRow", .glo "NoRows", .cls "PartReader", .glo "PartReader", .noat "PartReader" "row", .noat "PartReader" "words", .noat "PartReader" "at", .noat "PartReader" "left", .free "str", .free "isinstance", .free "len", .free "all", .free "int", .free "bool", .free "abs", .free "list", .free "tuple", .free "range", .free "enumerate", .free "max", .free "ValueError", .free "min", .str "LETTERS" "abcdefghijklmnopqrstuvwxyz", .glo "PARTS", .int "MOST_ROWS" 4, .int "DEEPEST" 12, .int "MOST_PARTS" 60, .int "MOST_NAMES" 4, .int "MOST_FUNCTIONS" 8, .str "FIGURES" "0123456789"]
def hts : List He.Tab := [((fun K => He.ga K "PARTS"), ["give", "plus", "less", "times", "below", "when", "pair", "left", "right"])]
def hex (K : PySem.W.Frag) : Bool := He.valsB K (He.ga K "PARTS") [("give", .int 2), ("plus", .int 2), ("less", .int 2), ("times", .int 2), ("below", .int 2), ("when", .int 3), ("pair", .int 2), ("left", .int 1), ("right", .int 1)] && errB K && errT K
abbrev hR : PySem.W.OpenRow := PySem.W.OpenLaw.row PySem.Challenge.rw_lazywebs_k73_texts_at_their_bounds
abbrev hk : PySem.W.Hook := He.hookX 5 hfa hfn hts [] hex
def ob (s : PySem.W.SharedT) : He.AlX := He.obsX 5 hfa hfn hts [] hex (HandSHeadRun.getT s)
theorem ob_eq (s : PySem.W.SharedT) : ob s = hk.obs s.abs := He.obsX_eq (HandSHeadRun.getT_eq s)
def loose0 : List Str := ["LazyError", "NoProgram", "Twice", "Hidden", "Stranger", "More", "NoRows", "NoText", "NoRow", "PARTS", "LETTERS", "is_name", "is_whole", "is_small", "within", "in_order", "MOST_FUNCTIONS", "MOST_NAMES", "MOST_ROWS", "MOST_PARTS", "DEEPEST", "is_row", "are_rows", "parts_of", "is_body", "is_function", "is_built", "row_names", "look_unlike", "look_named"]
def loose1 : List Str := ["looked", "FIGURES", "is_figures", "is_marked", "PartReader", "read_part", "read_function", "read", "_law_pen", "_law_draw", "_law_names", "_law_base", "_law_text", "_law_is_name", "_law_inner", "_law_is_body", "_law_is_function", "_law_lets", "_law_strange", "_law_due", "_law_figures", "_law_marked", "_law_part_wrong", "_law_row_wrong", "_law_built", "_law_read", "_law_reads", "_law_right", "_law_wide", "_law_great"]
def loose2 : List Str := ["_law_by_rows"]
def hloose : List Str := loose0 ++ loose1 ++ loose2
theorem hrunF (w : World) : HandSHeadRun.RunEq hR (PySem.W.view hR.prog [66]) hk ob 6000 hloose (w.withFollow "special-get-raises" false) := by
  intro os
  kernel_rfl
theorem hrunT (w : World) : HandSHeadRun.RunEq hR (PySem.W.view hR.prog [66]) hk ob 6000 hloose (w.withFollow "special-get-raises" true) := by
  intro os
  kernel_rfl
theorem hrun (w : World) : HandSHeadRun.RunEq hR (PySem.W.view hR.prog [66]) hk ob 6000 hloose w :=
  PySem.W.byRow2 "special-get-raises" (P := fun w => HandSHeadRun.RunEq hR (PySem.W.view hR.prog [66]) hk ob 6000 hloose w) hrunF hrunT w
/-! ### the readings of the defs -/
def t_Twice___init__ (K : PySem.W.Frag) (w : World) : TS :=
  (tOst K "name" (tVar 0) (tVar 1))
def t_Hidden___init__ (K : PySem.W.Frag) (w : World) : TS :=
  (tOst K "name" (tVar 0) (tVar 1))
def t_Stranger___init__ (K : PySem.W.Frag) (w : World) : TS :=
  (tOst K "name" (tVar 0) (tVar 1))
def t_NoText___init__ (K : PySem.W.Frag) (w : World) : TS :=
  (tSeq (tOst K "row" (tVar 0) (tVar 1))
  (tOst K "word" (tVar 0) (tVar 2)))
def t_is_name (K : PySem.W.Frag) (w : World) : TS :=
  (tSeq (tIfS (tOr (tNot (tTru K (tCB (rIsiG K) (tCons (tVar 0) (tCons (tC (.ty "str")) tNil))))) (tNot (tTest (tChain rLeG rLeG (tC (.int 1)) (tCB (rLenG K) (tCons (tVar 0) tNil)) (tC (.int 8)))))) (tRet (tC (.bl false))) tNext)
  (tRet (tCB (rAll K) (tCons (tLc (iSeq K (tVar 0)) (gName 1) tYes (tOp (rInG K w false) (tVar 1) (tC (.str "abcdefghijklmnopqrstuvwxyz"))) [1]) tNil))))
def t_is_whole (K : PySem.W.Frag) (w : World) : TS :=
  (tRet (tAndT K (tCB (rIsiG K) (tCons (tVar 0) (tCons (tC (.ty "int")) tNil))) (tNotT K (tCB (rIsiG K) (tCons (tVar 0) (tCons (tC (.ty "bool")) tNil))))))
def t_is_small (K : PySem.W.Frag) (w : World) : TS :=
  (tRet (tOp rLtG (tCB rAbsG (tCons (tVar 0) tNil)) (tOp rPowG (tC (.int 10)) (tC (.int 60)))))
def t_within (K : PySem.W.Frag) (w : World) : TS :=
  (tSeq (tIfS (tTest (tOp (rInG K w false) (tIxG K w (tVar 0) (tC (.int 0))) (tC (.ref (He.ga K "PARTS"))))) (tRet (tCB (rListG K) (tCons (tSl (rSlG K) (tVar 0) (tPart (tC (.int 1))) tNoPart) tNil))) tNext)
  (tSeq (tIfS (tTest (tOp (rEqG K) (tIxG K w (tVar 0) (tC (.int 0))) (tC (.str "let")))) (tRet (tOp (rAddG K) (tLc (iSeq K (tIxG K w (tVar 0) (tC (.int 1)))) (gTup K 2 (gCons (gName 1) (gCons (gName 2) gNil))) tYes (tVar 2) [1, 2]) (tLstN (tCons (tIxG K w (tVar 0) (tC (.int 2))) tNil)))) tNext)
  (tRet (tLstN tNil))))
def t_in_order (K : PySem.W.Frag) (w : World) (s_within : Sp) : TS :=
  (tSeq (tAsg (tLstN tNil) (gName 1))
  (tSeq (tAsg (tLstN (tCons (tVar 0) tNil)) (gName 2))
  (tSeq (tWhile (tTest (tOp (rNeG K) (tVar 2) (tLstN tNil))) (tSeq (tAsg (tBM0 K "list" rPopG (tVar 2)) (gName 3))
  (tSeq (tDrop (tBM K "list" rAppendG (tVar 1) (tCons (tVar 3) tNil)))
  (tDrop (tBM K "list" rExtendG (tVar 2) (tCons (tRevG K (tCall s_within [] E0 (tCons (tVar 3) tNil))) tNil))))))
  (tRet (tVar 1)))))
def t_is_row (K : PySem.W.Frag) (w : World) (s_is_name : Sp) : TS :=
  (tRet (tAndT K (tCB (rIsiG K) (tCons (tVar 0) (tCons (tC (.ty "tuple")) tNil))) (tAndT K (tOp (rEqG K) (tCB (rLenG K) (tCons (tVar 0) tNil)) (tC (.int 2))) (tCall s_is_name [] E0 (tCons (tIxG K w (tVar 0) (tC (.int 0))) tNil)))))
def t_are_rows (K : PySem.W.Frag) (w : World) (s_is_row : Sp) : TS :=
  (tRet (tAndT K (tCB (rIsiG K) (tCons (tVar 0) (tCons (tC (.ty "tuple")) tNil))) (tAndT K (tChain rLeG rLeG (tC (.int 1)) (tCB (rLenG K) (tCons (tVar 0) tNil)) (tC (.int 4))) (tCB (rAll K) (tCons (tLc (iSeq K (tVar 0)) (gName 1) tYes (tCall s_is_row [] E0 (tCons (tVar 1) tNil)) [1]) tNil)))))
def t_parts_of (K : PySem.W.Frag) (w : World) (s_is_whole : Sp) (s_is_small : Sp) (s_is_name : Sp) (s_are_rows : Sp) : TS :=
  (tSeq (tIfS (tOr (tNot (tTru K (tCB (rIsiG K) (tCons (tVar 0) (tCons (tC (.ty "tuple")) tNil))))) (tOr (tTest (tOp rLtG (tCB (rLenG K) (tCons (tVar 0) tNil)) (tC (.int 2)))) (tNot (tTru K (tCB (rIsiG K) (tCons (tIxG K w (tVar 0) (tC (.int 0))) (tCons (tC (.ty "str")) tNil))))))) (tRet (tC .non)) tNext)
  (tSeq (tIfS (tAnd (tTest (tOp (rEqG K) (tIxG K w (tVar 0) (tC (.int 0))) (tC (.str "number")))) (tAnd (tTest (tOp (rEqG K) (tCB (rLenG K) (tCons (tVar 0) tNil)) (tC (.int 2)))) (tAnd (tTru K (tCall s_is_whole [] E0 (tCons (tIxG K w (tVar 0) (tC (.int 1))) tNil))) (tTru K (tCall s_is_small [] E0 (tCons (tIxG K w (tVar 0) (tC (.int 1))) tNil)))))) (tRet (tLstN tNil)) tNext)
  (tSeq (tIfS (tAnd (tTest (tOp (rInG K w false) (tIxG K w (tVar 0) (tC (.int 0))) (tTupN (tCons (tC (.str "name")) (tCons (tC (.str "fun")) tNil))))) (tAnd (tTest (tOp (rEqG K) (tCB (rLenG K) (tCons (tVar 0) tNil)) (tC (.int 2)))) (tTru K (tCall s_is_name [] E0 (tCons (tIxG K w (tVar 0) (tC (.int 1))) tNil))))) (tRet (tLstN tNil)) tNext)
  (tSeq (tIfS (tAnd (tTest (tOp (rInG K w false) (tIxG K w (tVar 0) (tC (.int 0))) (tC (.ref (He.ga K "PARTS"))))) (tTest (tOp (rEqG K) (tCB (rLenG K) (tCons (tVar 0) tNil)) (tOp (rAddG K) (tIxG K w (tC (.ref (He.ga K "PARTS"))) (tIxG K w (tVar 0) (tC (.int 0)))) (tC (.int 1)))))) (tRet (tCB (rListG K) (tCons (tSl (rSlG K) (tVar 0) (tPart (tC (.int 1))) tNoPart) tNil))) tNext)
  (tSeq (tIfS (tAnd (tTest (tOp (rEqG K) (tIxG K w (tVar 0) (tC (.int 0))) (tC (.str "let")))) (tAnd (tTest (tOp (rEqG K) (tCB (rLenG K) (tCons (tVar 0) tNil)) (tC (.int 3)))) (tTru K (tCall s_are_rows [] E0 (tCons (tIxG K w (tVar 0) (tC (.int 1))) tNil))))) (tRet (tOp (rAddG K) (tLc (iSeq K (tIxG K w (tVar 0) (tC (.int 1)))) (gName 1) tYes (tIxG K w (tVar 1) (tC (.int 1))) [1]) (tLstN (tCons (tIxG K w (tVar 0) (tC (.int 2))) tNil)))) tNext)
  (tRet (tC .non)))))))
def t_is_body (K : PySem.W.Frag) (w : World) (s_parts_of : Sp) : TS :=
  (tSeq (tAsg (tC (.int 0)) (gName 1))
  (tSeq (tAsg (tLstN (tCons (tTupN (tCons (tVar 0) (tCons (tC (.int 1)) tNil))) tNil)) (gName 2))
  (tSeq (tWhile (tTest (tOp (rNeG K) (tVar 2) (tLstN tNil))) (tSeq (tAsg (tBM0 K "list" rPopG (tVar 2)) (gTup K 2 (gCons (gName 3) (gCons (gName 4) gNil))))
  (tSeq (tAsg (tCall s_parts_of [] E0 (tCons (tVar 3) tNil)) (gName 5))
  (tSeq (tAsg (tOp (rAddG K) (tVar 1) (tC (.int 1))) (gName 1))
  (tSeq (tIfS (tOr (tTest (tOp (rIsG false) (tVar 5) (tC .non))) (tOr (tTest (tOp rGtG (tVar 4) (tC (.int 12)))) (tTest (tOp rGtG (tVar 1) (tC (.int 60)))))) (tRet (tC (.bl false))) tNext)
  (tDrop (tBM K "list" rExtendG (tVar 2) (tCons (tLc (iSeq K (tVar 5)) (gName 6) tYes (tTupN (tCons (tVar 6) (tCons (tOp (rAddG K) (tVar 4) (tC (.int 1))) tNil))) [6]) tNil))))))))
  (tRet (tC (.bl true))))))
def t_is_function (K : PySem.W.Frag) (w : World) (s_is_name : Sp) (s_is_body : Sp) : TS :=
  (tSeq (tIfS (tOr (tNot (tTru K (tCB (rIsiG K) (tCons (tVar 0) (tCons (tC (.ty "tuple")) tNil))))) (tOr (tTest (tOp (rNeG K) (tCB (rLenG K) (tCons (tVar 0) tNil)) (tC (.int 3)))) (tOr (tNot (tTru K (tCall s_is_name [] E0 (tCons (tIxG K w (tVar 0) (tC (.int 0))) tNil)))) (tNot (tTru K (tCB (rIsiG K) (tCons (tIxG K w (tVar 0) (tC (.int 1))) (tCons (tC (.ty "tuple")) tNil)))))))) (tRet (tC (.bl false))) tNext)
  (tRet (tAndT K (tOp rLeG (tCB (rLenG K) (tCons (tIxG K w (tVar 0) (tC (.int 1))) tNil)) (tC (.int 4))) (tAndT K (tCB (rAll K) (tCons (tLc (iSeq K (tIxG K w (tVar 0) (tC (.int 1)))) (gName 1) tYes (tCall s_is_name [] E0 (tCons (tVar 1) tNil)) [1]) tNil)) (tCall s_is_body [] E0 (tCons (tIxG K w (tVar 0) (tC (.int 2))) tNil))))))
def t_is_built (K : PySem.W.Frag) (w : World) (s_is_function : Sp) (s_is_body : Sp) : TS :=
  (tSeq (tIfS (tOr (tNot (tTru K (tCB (rIsiG K) (tCons (tVar 0) (tCons (tC (.ty "tuple")) tNil))))) (tOr (tTest (tOp (rNeG K) (tCB (rLenG K) (tCons (tVar 0) tNil)) (tC (.int 2)))) (tNot (tTru K (tCB (rIsiG K) (tCons (tIxG K w (tVar 0) (tC (.int 0))) (tCons (tC (.ty "tuple")) tNil))))))) (tRet (tC (.bl false))) tNext)
  (tRet (tAndT K (tOp rLeG (tCB (rLenG K) (tCons (tIxG K w (tVar 0) (tC (.int 0))) tNil)) (tC (.int 8))) (tAndT K (tCB (rAll K) (tCons (tLc (iSeq K (tIxG K w (tVar 0) (tC (.int 0)))) (gName 1) tYes (tCall s_is_function [] E0 (tCons (tVar 1) tNil)) [1]) tNil)) (tCall s_is_body [] E0 (tCons (tIxG K w (tVar 0) (tC (.int 1))) tNil))))))
def t_row_names (K : PySem.W.Frag) (w : World) (s_in_order : Sp) : TS :=
  (tSeq (tAsg (tLstN tNil) (gName 1))
  (tSeq (tFor (iSeq K (tCall s_in_order [] E0 (tCons (tVar 0) tNil))) (gName 2) (tIfS (tTest (tOp (rEqG K) (tIxG K w (tVar 2) (tC (.int 0))) (tC (.str "let")))) (tDrop (tBM K "list" rExtendG (tVar 1) (tCons (tLc (iSeq K (tIxG K w (tVar 2) (tC (.int 1)))) (gTup K 2 (gCons (gName 3) (gCons (gName 4) gNil))) tYes (tVar 3) [3, 4]) tNil))) tNext))
  (tRet (tVar 1))))
def tx_look_unlike (K : PySem.W.Frag) (w : World) (s_Hidden___init__ : Sp) (E : XK) : TS :=
  (tFor (iRng1 (tCons (tCB (rLenG K) (tCons (tVar 0) tNil)) tNil)) (gName 1) (tIfS (tTest (tOp (rInG K w false) (tIxG K w (tVar 0) (tVar 1)) (tSl (rSlG K) (tVar 0) tNoPart (tPart (tVar 1))))) (tRaiseI (He.ga K "Hidden") s_Hidden___init__ E (tCons (tIxG K w (tVar 0) (tVar 1)) tNil)) tNext))
def tx_look_named (K : PySem.W.Frag) (w : World) (s_Stranger___init__ : Sp) (s_look_named : Sp) (E : XK) : TS :=
  (tSeq (tIfS (tOr (tAnd (tTest (tOp (rEqG K) (tIxG K w (tVar 0) (tC (.int 0))) (tC (.str "name")))) (tTest (tOp (rInG K w true) (tIxG K w (tVar 0) (tC (.int 1))) (tVar 1)))) (tAnd (tTest (tOp (rEqG K) (tIxG K w (tVar 0) (tC (.int 0))) (tC (.str "fun")))) (tTest (tOp (rInG K w true) (tIxG K w (tVar 0) (tC (.int 1))) (tVar 2))))) (tRaiseI (He.ga K "Stranger") s_Stranger___init__ E (tCons (tIxG K w (tVar 0) (tC (.int 1))) tNil)) tNext)
  (tIfS (tTest (tOp (rEqG K) (tIxG K w (tVar 0) (tC (.int 0))) (tC (.str "let")))) (tSeq (tAsg (tOp (rAddG K) (tVar 1) (tLc (iSeq K (tIxG K w (tVar 0) (tC (.int 1)))) (gTup K 2 (gCons (gName 4) (gCons (gName 5) gNil))) tYes (tVar 4) [4, 5])) (gName 3))
  (tSeq (tFor (iSeq K (tIxG K w (tVar 0) (tC (.int 1)))) (gTup K 2 (gCons (gName 4) (gCons (gName 5) gNil))) (tDrop (tCallE s_look_named E (tCons (tVar 5) (tCons (tVar 3) (tCons (tVar 2) tNil))))))
  (tDrop (tCallE s_look_named E (tCons (tIxG K w (tVar 0) (tC (.int 2))) (tCons (tVar 3) (tCons (tVar 2) tNil))))))) (tIfS (tTest (tOp (rInG K w false) (tIxG K w (tVar 0) (tC (.int 0))) (tC (.ref (He.ga K "PARTS"))))) (tFor (iSeq K (tSl (rSlG K) (tVar 0) (tPart (tC (.int 1))) tNoPart)) (gName 5) (tDrop (tCallE s_look_named E (tCons (tVar 5) (tCons (tVar 1) (tCons (tVar 2) tNil)))))) tNext)))
def tx_looked (K : PySem.W.Frag) (w : World) (s_is_built : Sp) (s_Twice___init__ : Sp) (s_look_unlike : Sp) (s_row_names : Sp) (s_look_named : Sp) (E : XK) : TS :=
  (tSeq (tIfS (tNot (tTru K (tCall s_is_built [] E0 (tCons (tVar 0) tNil)))) (tRaiseO (He.ga K "NoProgram") E) tNext)
  (tSeq (tAsg (tLc (iSeq K (tIxG K w (tVar 0) (tC (.int 0)))) (gTup K 3 (gCons (gName 2) (gCons (gName 3) (gCons (gName 4) gNil)))) tYes (tVar 2) [2, 3, 4]) (gName 1))
  (tSeq (tFor (iRng1 (tCons (tCB (rLenG K) (tCons (tVar 1) tNil)) tNil)) (gName 5) (tIfS (tTest (tOp (rInG K w false) (tIxG K w (tVar 1) (tVar 5)) (tSl (rSlG K) (tVar 1) tNoPart (tPart (tVar 5))))) (tRaiseI (He.ga K "Twice") s_Twice___init__ E (tCons (tIxG K w (tVar 1) (tVar 5)) tNil)) tNext))
  (tSeq (tFor (iSeq K (tOp (rAddG K) (tLc (iSeq K (tIxG K w (tVar 0) (tC (.int 0)))) (gTup K 3 (gCons (gName 2) (gCons (gName 3) (gCons (gName 4) gNil)))) tYes (tTupN (tCons (tVar 3) (tCons (tVar 4) tNil))) [2, 3, 4]) (tLstN (tCons (tTupN (tCons (tTupN tNil) (tCons (tIxG K w (tVar 0) (tC (.int 1))) tNil))) tNil)))) (gTup K 2 (gCons (gName 3) (gCons (gName 4) gNil))) (tSeq (tDrop (tCallE s_look_unlike E (tCons (tOp (rAddG K) (tCB (rListG K) (tCons (tVar 3) tNil)) (tCall s_row_names [] E0 (tCons (tVar 4) tNil))) tNil)))
  (tDrop (tCallE s_look_named E (tCons (tVar 4) (tCons (tCB (rListG K) (tCons (tVar 3) tNil)) (tCons (tVar 1) tNil)))))))
  (tRet (tVar 0))))))
def t_is_figures (K : PySem.W.Frag) (w : World) : TS :=
  (tSeq (tAsg (tIf (tTest (tOp (rEqG K) (tSl (rSlG K) (tVar 0) tNoPart (tPart (tC (.int 1)))) (tC (.str "-")))) (tSl (rSlG K) (tVar 0) (tPart (tC (.int 1))) tNoPart) (tVar 0)) (gName 1))
  (tSeq (tIfS (tOr (tNot (tTest (tChain rLeG rLeG (tC (.int 1)) (tCB (rLenG K) (tCons (tVar 1) tNil)) (tC (.int 60))))) (tNot (tTru K (tCB (rAll K) (tCons (tLc (iSeq K (tVar 1)) (gName 2) tYes (tOp (rInG K w false) (tVar 2) (tC (.str "0123456789"))) [2]) tNil))))) (tRet (tC (.bl false))) tNext)
  (tRet (tOrT K (tOp (rEqG K) (tVar 0) (tC (.str "0"))) (tOp (rNeG K) (tIxG K w (tVar 1) (tC (.int 0))) (tC (.str "0")))))))
def t_is_marked (K : PySem.W.Frag) (w : World) (s_is_name : Sp) : TS :=
  (tRet (tAndT K (tOp (rEqG K) (tSl (rSlG K) (tVar 0) tNoPart (tPart (tC (.int 1)))) (tVar 1)) (tCall s_is_name [] E0 (tCons (tSl (rSlG K) (tVar 0) (tPart (tC (.int 1))) tNoPart) tNil))))
def t_PartReader___init__ (K : PySem.W.Frag) (w : World) : TS :=
  (tSeq (sFld K (tVar 0) (tVar 1) "row")
  (tSeq (sFld K (tVar 0) (tVar 2) "words")
  (tSeq (sFld K (tVar 0) (tVar 3) "at")
  (sFld K (tVar 0) (tC (.int 60)) "left"))))
def tx_PartReader_refuse (K : PySem.W.Frag) (w : World) (s_NoText___init__ : Sp) (E : XK) : TS :=
  (tRaiseI (He.ga K "NoText") s_NoText___init__ E (tCons (tFld K (tVar 0) "row") (tCons (tFld K (tVar 0) "at") tNil)))
def tx_PartReader_now (K : PySem.W.Frag) (w : World) (s_PartReader_refuse : Sp) (E : XK) : TS :=
  (tSeq (tIfS (tTest (tOp (rEqG K) (tFld K (tVar 0) "at") (tCB (rLenG K) (tCons (tFld K (tVar 0) "words") tNil)))) (tDrop (tMeth (He.ga K "PartReader") "refuse" s_PartReader_refuse [] E (tVar 0) tNil)) tNext)
  (tRet (tIxG K w (tFld K (tVar 0) "words") (tFld K (tVar 0) "at"))))
def tx_PartReader_mark (K : PySem.W.Frag) (w : World) (s_PartReader_now : Sp) (s_is_marked : Sp) (s_PartReader_refuse : Sp) (E : XK) : TS :=
  (tSeq (tAsg (tMeth (He.ga K "PartReader") "now" s_PartReader_now [] E (tVar 0) tNil) (gName 1))
  (tSeq (tIfS (tNot (tTru K (tCall s_is_marked [] E0 (tCons (tVar 1) (tCons (tC (.str ".")) tNil))))) (tDrop (tMeth (He.ga K "PartReader") "refuse" s_PartReader_refuse [] E (tVar 0) tNil)) tNext)
  (tSeq (sFld K (tVar 0) (tOp (rAddG K) (tFld K (tVar 0) "at") (tC (.int 1))) "at")
  (tRet (tSl (rSlG K) (tVar 1) (tPart (tC (.int 1))) tNoPart)))))
def tx_PartReader_begin (K : PySem.W.Frag) (w : World) (s_PartReader_now : Sp) (s_is_figures : Sp) (s_is_marked : Sp) (s_PartReader_refuse : Sp) (E : XK) : TS :=
  (tSeq (tAsg (tMeth (He.ga K "PartReader") "now" s_PartReader_now [] E (tVar 0) tNil) (gName 2))
  (tSeq (tAsg (tOrT K (tCall s_is_figures [] E0 (tCons (tVar 2) tNil)) (tOrT K (tCall s_is_marked [] E0 (tCons (tVar 2) (tCons (tC (.str ".")) tNil))) (tCall s_is_marked [] E0 (tCons (tVar 2) (tCons (tC (.str ":")) tNil))))) (gName 3))
  (tSeq (tIfS (tOr (tTest (tOp rGtG (tVar 1) (tC (.int 12)))) (tOr (tTest (tOp (rEqG K) (tFld K (tVar 0) "left") (tC (.int 0)))) (tAnd (tNot (tTru K (tVar 3))) (tAnd (tTest (tOp (rInG K w true) (tVar 2) (tC (.ref (He.ga K "PARTS"))))) (tTest (tOp (rNeG K) (tVar 2) (tC (.str "let")))))))) (tDrop (tMeth (He.ga K "PartReader") "refuse" s_PartReader_refuse [] E (tVar 0) tNil)) tNext)
  (tSeq (sFld K (tVar 0) (tOp rSubG (tFld K (tVar 0) "left") (tC (.int 1))) "left")
  (tSeq (sFld K (tVar 0) (tOp (rAddG K) (tFld K (tVar 0) "at") (tC (.int 1))) "at")
  (tRet (tVar 2)))))))
def tx_PartReader_let_rows (K : PySem.W.Frag) (w : World) (s_PartReader_now : Sp) (s_PartReader_refuse : Sp) (s_PartReader_mark : Sp) (s_PartReader_part : Sp) (E : XK) : TS :=
  (tSeq (tAsg (tMeth (He.ga K "PartReader") "now" s_PartReader_now [] E (tVar 0) tNil) (gName 2))
  (tSeq (tIfS (tTest (tOp (rInG K w true) (tVar 2) (tSl (rSlG K) (tTupN (tCons (tC (.str "1")) (tCons (tC (.str "2")) (tCons (tC (.str "3")) (tCons (tC (.str "4")) tNil))))) tNoPart (tPart (tC (.int 4)))))) (tDrop (tMeth (He.ga K "PartReader") "refuse" s_PartReader_refuse [] E (tVar 0) tNil)) tNext)
  (tSeq (sFld K (tVar 0) (tOp (rAddG K) (tFld K (tVar 0) "at") (tC (.int 1))) "at")
  (tSeq (tAsg (tLstN tNil) (gName 3))
  (tSeq (tFor (iRng1 (tCons (tCB rIntA (tCons (tVar 2) tNil)) tNil)) (gName 4) (tSeq (tAsg (tMeth (He.ga K "PartReader") "mark" s_PartReader_mark [] E (tVar 0) tNil) (gName 5))
  (tDrop (tBM K "list" rAppendG (tVar 3) (tCons (tTupN (tCons (tVar 5) (tCons (tMeth (He.ga K "PartReader") "part" s_PartReader_part [] E (tVar 0) (tCons (tVar 1) tNil)) tNil))) tNil)))))
  (tRet (tCB (rTupleG K) (tCons (tVar 3) tNil))))))))
def tx_PartReader_part (K : PySem.W.Frag) (w : World) (s_PartReader_begin : Sp) (s_PartReader_part : Sp) (s_PartReader_let_rows : Sp) (E : XK) : TS :=
  (tSeq (tAsg (tMeth (He.ga K "PartReader") "begin" s_PartReader_begin [] E (tVar 0) (tCons (tVar 1) tNil)) (gName 2))
  (tSeq (tIfS (tTest (tOp (rInG K w false) (tVar 2) (tC (.ref (He.ga K "PARTS"))))) (tRet (tOp (rAddG K) (tTupN (tCons (tVar 2) tNil)) (tCB (rTupleG K) (tCons (tLc (iRng1 (tCons (tIxG K w (tC (.ref (He.ga K "PARTS"))) (tVar 2)) tNil)) (gName 3) tYes (tMeth (He.ga K "PartReader") "part" s_PartReader_part [] E (tVar 0) (tCons (tOp (rAddG K) (tVar 1) (tC (.int 1))) tNil)) [3]) tNil)))) tNext)
  (tSeq (tIfS (tTest (tOp (rEqG K) (tVar 2) (tC (.str "let")))) (tSeq (tAsg (tMeth (He.ga K "PartReader") "let_rows" s_PartReader_let_rows [] E (tVar 0) (tCons (tOp (rAddG K) (tVar 1) (tC (.int 1))) tNil)) (gName 4))
  (tRet (tTupN (tCons (tC (.str "let")) (tCons (tVar 4) (tCons (tMeth (He.ga K "PartReader") "part" s_PartReader_part [] E (tVar 0) (tCons (tOp (rAddG K) (tVar 1) (tC (.int 1))) tNil)) tNil)))))) tNext)
  (tSeq (tIfS (tTest (tOp (rEqG K) (tIxG K w (tVar 2) (tC (.int 0))) (tC (.str ".")))) (tRet (tTupN (tCons (tC (.str "name")) (tCons (tSl (rSlG K) (tVar 2) (tPart (tC (.int 1))) tNoPart) tNil)))) tNext)
  (tSeq (tIfS (tTest (tOp (rEqG K) (tIxG K w (tVar 2) (tC (.int 0))) (tC (.str ":")))) (tRet (tTupN (tCons (tC (.str "fun")) (tCons (tSl (rSlG K) (tVar 2) (tPart (tC (.int 1))) tNoPart) tNil)))) tNext)
  (tRet (tTupN (tCons (tC (.str "number")) (tCons (tCB rIntA (tCons (tVar 2) tNil)) tNil)))))))))
def tx_PartReader_whole (K : PySem.W.Frag) (w : World) (s_PartReader_part : Sp) (s_PartReader_refuse : Sp) (E : XK) : TS :=
  (tSeq (tAsg (tMeth (He.ga K "PartReader") "part" s_PartReader_part [] E (tVar 0) (tCons (tC (.int 1)) tNil)) (gName 1))
  (tSeq (tIfS (tTest (tOp rLtG (tFld K (tVar 0) "at") (tCB (rLenG K) (tCons (tFld K (tVar 0) "words") tNil)))) (tDrop (tMeth (He.ga K "PartReader") "refuse" s_PartReader_refuse [] E (tVar 0) tNil)) tNext)
  (tRet (tVar 1))))
def tx_read_part (K : PySem.W.Frag) (w : World) (s_PartReader___init__ : Sp) (s_PartReader_whole : Sp) (E : XK) : TS :=
  (tRet (tMeth (He.ga K "PartReader") "whole" s_PartReader_whole [] E (tMake (He.ga K "PartReader") s_PartReader___init__ [] E0 (tCons (tVar 0) (tCons (tVar 1) (tCons (tVar 2) tNil)))) tNil))
def tx_read_function (K : PySem.W.Frag) (w : World) (s_is_name : Sp) (s_NoText___init__ : Sp) (s_is_marked : Sp) (s_read_part : Sp) (E : XK) : TS :=
  (tSeq (tIfS (tNot (tTru K (tCall s_is_name [] E0 (tCons (tIxG K w (tVar 1) (tC (.int 0))) tNil)))) (tRaiseI (He.ga K "NoText") s_NoText___init__ E (tCons (tVar 0) (tCons (tC (.int 0)) tNil))) tNext)
  (tSeq (tAsg (tC (.int 1)) (gName 2))
  (tSeq (tAsg (tLstN tNil) (gName 3))
  (tSeq (tWhile (tAnd (tTest (tOp rLtG (tVar 2) (tCB (rLenG K) (tCons (tVar 1) tNil)))) (tAnd (tTru K (tCall s_is_marked [] E0 (tCons (tIxG K w (tVar 1) (tVar 2)) (tCons (tC (.str ".")) tNil)))) (tTest (tOp rLtG (tCB (rLenG K) (tCons (tVar 3) tNil)) (tC (.int 4)))))) (tSeq (tDrop (tBM K "list" rAppendG (tVar 3) (tCons (tSl (rSlG K) (tIxG K w (tVar 1) (tVar 2)) (tPart (tC (.int 1))) tNoPart) tNil)))
  (tAsg (tOp (rAddG K) (tVar 2) (tC (.int 1))) (gName 2))))
  (tSeq (tIfS (tOr (tTest (tOp (rEqG K) (tVar 2) (tCB (rLenG K) (tCons (tVar 1) tNil)))) (tTest (tOp (rNeG K) (tIxG K w (tVar 1) (tVar 2)) (tC (.str "="))))) (tRaiseI (He.ga K "NoText") s_NoText___init__ E (tCons (tVar 0) (tCons (tVar 2) tNil))) tNext)
  (tRet (tTupN (tCons (tIxG K w (tVar 1) (tC (.int 0))) (tCons (tCB (rTupleG K) (tCons (tVar 3) tNil)) (tCons (tCallE s_read_part E (tCons (tVar 0) (tCons (tVar 1) (tCons (tOp (rAddG K) (tVar 2) (tC (.int 1))) tNil)))) tNil))))))))))
def tx_read (K : PySem.W.Frag) (w : World) (s_NoText___init__ : Sp) (s_read_part : Sp) (s_read_function : Sp) (s_looked : Sp) (E : XK) : TS :=
  (tSeq (tAsg (tLstN tNil) (gName 1))
  (tSeq (tAsg (tC .non) (gName 2))
  (tSeq (tAsg (tM1 rSplitG (tVar 0) (tC (.str "\n"))) (gName 3))
  (tSeq (tFor (iEnum K (tCons (tVar 3) tNil)) (gTup K 2 (gCons (gName 4) (gCons (gName 5) gNil))) (tSeq (tAsg (tM1 rSplitG (tVar 5) (tC (.str " "))) (gName 6))
  (tSeq (tIfS (tTest (tOp (rIsG true) (tVar 2) (tC .non))) (tRaiseI (He.ga K "NoText") s_NoText___init__ E (tCons (tVar 4) (tCons (tC (.int 0)) tNil))) tNext)
  (tIfS (tTest (tOp (rEqG K) (tIxG K w (tVar 6) (tC (.int 0))) (tC (.str "?")))) (tAsg (tCallE s_read_part E (tCons (tVar 4) (tCons (tVar 6) (tCons (tC (.int 1)) tNil)))) (gName 2)) (tIfS (tTest (tOp (rEqG K) (tCB (rLenG K) (tCons (tVar 1) tNil)) (tC (.int 8)))) (tRaiseI (He.ga K "NoText") s_NoText___init__ E (tCons (tVar 4) (tCons (tC (.int 0)) tNil))) (tDrop (tBM K "list" rAppendG (tVar 1) (tCons (tCallE s_read_function E (tCons (tVar 4) (tCons (tVar 6) tNil))) tNil))))))))
  (tSeq (tIfS (tTest (tOp (rIsG false) (tVar 2) (tC .non))) (tRaiseI (He.ga K "NoText") s_NoText___init__ E (tCons (tCB (rLenG K) (tCons (tVar 3) tNil)) (tCons (tC (.int 0)) tNil))) tNext)
  (tRet (tCallE s_looked E (tCons (tTupN (tCons (tCB (rTupleG K) (tCons (tVar 1) tNil)) (tCons (tVar 2) tNil))) tNil))))))))
def t_law_pen (K : PySem.W.Frag) (w : World) : TS :=
  (tRet (tLstN (tCons (tCB (rListG K) (tCons (tSl (rSlG K) (tVar 0) tNoPart (tPart (tC (.int 63)))) tNil)) (tCons (tC (.int 0)) (tCons (tC (.int 0)) tNil)))))
def t_law_draw (K : PySem.W.Frag) (w : World) : TS :=
  (tSeq (tIfS (tTest (tOp rGtG (tIxG K w (tVar 0) (tC (.int 2))) (tC (.int 0)))) (tSeq (tAsg (tOp rModG (tIxG K w (tVar 0) (tC (.int 2))) (tVar 1)) (gName 2))
  (tSeq (tAsg (tOp rDivG (tIxG K w (tVar 0) (tC (.int 2))) (tVar 1)) (gSub (tVar 0) (tC (.int 2)) rSetG))
  (tRet (tVar 2)))) tNext)
  (tSeq (tAsg (tIxG K w (tVar 0) (tC (.int 1))) (gName 3))
  (tSeq (tAsg (tOp (rAddG K) (tVar 3) (tC (.int 1))) (gSub (tVar 0) (tC (.int 1)) rSetG))
  (tSeq (tAsg (tIxG K w (tOp (rAddG K) (tIxG K w (tVar 0) (tC (.int 0))) (tLstN (tCons (tC (.int 7)) tNil))) (tOp rModG (tVar 3) (tCB rMax2 (tCons (tC (.int 1)) (tCons (tCB (rLenG K) (tCons (tIxG K w (tVar 0) (tC (.int 0))) tNil)) tNil))))) (gName 4))
  (tSeq (tIfS (tAnd (tTest (tOp rLtG (tVar 3) (tCB (rLenG K) (tCons (tIxG K w (tVar 0) (tC (.int 0))) tNil)))) (tTest (tOp rGeG (tCB rAbsG (tCons (tVar 4) tNil)) (tOp rPowG (tC (.int 10)) (tC (.int 18)))))) (tSeq (tAsg (tOp rDivG (tCB rAbsG (tCons (tVar 4) tNil)) (tVar 1)) (gSub (tVar 0) (tC (.int 2)) rSetG))
  (tRet (tOp rModG (tCB rAbsG (tCons (tVar 4) tNil)) (tVar 1)))) tNext)
  (tSeq (tAsg (tIxG K w (tLstN (tCons (tC (.int 2147483647)) (tCons (tC (.int 2147483629)) (tCons (tC (.int 2147483587)) (tCons (tC (.int 2147483579)) (tCons (tC (.int 2147483563)) (tCons (tC (.int 2147483549)) (tCons (tC (.int 2147483543)) tNil)))))))) (tOp rModG (tVar 3) (tC (.int 7)))) (gName 5))
  (tSeq (tAsg (tOp rModG (tOp rMulG (tOp (rAddG K) (tOp (rAddG K) (tOp rModG (tVar 4) (tC (.int 2147483497))) (tOp rMulG (tC (.int 69621)) (tVar 3))) (tC (.int 13))) (tC (.int 48271))) (tVar 5)) (gName 6))
  (tSeq (tAsg (tOp rModG (tOp (rAddG K) (tOp (rAddG K) (tOp rMulG (tVar 6) (tVar 6)) (tOp rMulG (tC (.int 40692)) (tVar 6))) (tVar 3)) (tC (.int 2147483489))) (gName 6))
  (tRet (tOp rModG (tOp rDivG (tOp rModG (tOp rMulG (tVar 6) (tC (.int 16807))) (tC (.int 2147483477))) (tC (.int 32))) (tVar 1)))))))))))
def t_law_names (K : PySem.W.Frag) (w : World) (s_law_draw : Sp) : TS :=
  (tSeq (tAsg (tC (.str "abcdefghijklmnopqrstuvwxyz")) (gName 2))
  (tSeq (tAsg (tM1 (rJoinG K) (tC (.str "")) (tLc (iRng1 (tCons (tOp (rAddG K) (tC (.int 1)) (tCall s_law_draw [] E0 (tCons (tVar 0) (tCons (tC (.int 8)) tNil)))) tNil)) (gName 4) tYes (tIxG K w (tVar 2) (tCall s_law_draw [] E0 (tCons (tVar 0) (tCons (tC (.int 26)) tNil)))) [4])) (gName 3))
  (tSeq (tAsg (tCall s_law_draw [] E0 (tCons (tVar 0) (tCons (tCB (rLenG K) (tCons (tVar 3) tNil)) tNil))) (gName 5))
  (tSeq (tAsg (tCall s_law_draw [] E0 (tCons (tVar 0) (tCons (tC (.int 26)) tNil))) (gName 6))
  (tSeq (tAsg (tIxG K w (tLstN (tCons (tC (.int 1)) (tCons (tC (.int 3)) (tCons (tC (.int 5)) (tCons (tC (.int 7)) (tCons (tC (.int 9)) (tCons (tC (.int 11)) tNil))))))) (tCall s_law_draw [] E0 (tCons (tVar 0) (tCons (tC (.int 6)) tNil)))) (gName 7))
  (tRet (tLc (iRng1 (tCons (tVar 1) tNil)) (gName 4) tYes (tOp (rAddG K) (tOp (rAddG K) (tSl (rSlG K) (tVar 3) tNoPart (tPart (tVar 5))) (tIxG K w (tVar 2) (tOp rModG (tOp (rAddG K) (tVar 6) (tOp rMulG (tVar 7) (tVar 4))) (tC (.int 26))))) (tSl (rSlG K) (tVar 3) (tPart (tOp (rAddG K) (tVar 5) (tC (.int 1)))) tNoPart)) [4])))))))
def t_law_base (K : PySem.W.Frag) (w : World) (s_law_names : Sp) (s_law_draw : Sp) : TS :=
  (tSeq (tAsg (tCall s_law_names [] E0 (tCons (tVar 0) (tCons (tC (.int 3)) tNil))) (gName 1))
  (tSeq (tAsg (tLstN (tCons (tLstN (tCons (tIxG K w (tVar 1) (tC (.int 0))) (tCons (tC (.str ".a")) (tCons (tC (.str "=")) (tCons (tC (.str "plus")) (tCons (tC (.str ".a")) (tCons (tCB rStrG (tCons (tCall s_law_draw [] E0 (tCons (tVar 0) (tCons (tC (.int 9)) tNil))) tNil)) tNil))))))) (tCons (tLstN (tCons (tIxG K w (tVar 1) (tC (.int 1))) (tCons (tC (.str "=")) (tCons (tC (.str "0")) tNil)))) tNil))) (gName 2))
  (tSeq (tDrop (tBM K "list" rAppendG (tVar 2) (tCons (tLstN (tCons (tIxG K w (tVar 1) (tC (.int 2))) (tCons (tC (.str ".b")) (tCons (tC (.str ".c")) (tCons (tC (.str "=")) (tCons (tC (.str "let")) (tCons (tC (.str "1")) (tCons (tC (.str ".d")) (tCons (tC (.str "pair")) (tCons (tC (.str ".b")) (tCons (tC (.str ".d")) (tCons (tC (.str ".c")) tNil)))))))))))) tNil)))
  (tRet (tOp (rAddG K) (tSl (rSlG K) (tVar 2) tNoPart (tPart (tCall s_law_draw [] E0 (tCons (tVar 0) (tCons (tC (.int 4)) tNil))))) (tLstN (tCons (tLstN (tCons (tC (.str "?")) (tCons (tOp (rAddG K) (tOp rMulS (tC (.str "-")) (tCall s_law_draw [] E0 (tCons (tVar 0) (tCons (tC (.int 2)) tNil)))) (tC (.str "7"))) tNil))) tNil)))))))
def t_law_text (K : PySem.W.Frag) (w : World) : TS :=
  (tRet (tM1 (rJoinG K) (tC (.str "\n")) (tLc (iSeq K (tVar 0)) (gName 1) tYes (tM1 (rJoinG K) (tC (.str " ")) (tVar 1)) [1])))
def t_law_is_name (K : PySem.W.Frag) (w : World) : TS :=
  (tSeq (tIfS (tOr (tNot (tTru K (tCB (rIsiG K) (tCons (tVar 0) (tCons (tC (.ty "str")) tNil))))) (tOr (tTest (tOp rLtG (tCB (rLenG K) (tCons (tVar 0) tNil)) (tC (.int 1)))) (tTest (tOp rGtG (tCB (rLenG K) (tCons (tVar 0) tNil)) (tC (.int 8)))))) (tRet (tC (.bl false))) tNext)
  (tRet (tOp (rEqG K) (tLc (iSeq K (tVar 0)) (gName 1) (tTest (tOp (rInG K w true) (tVar 1) (tC (.str "abcdefghijklmnopqrstuvwxyz")))) (tVar 1) [1]) (tLstN tNil))))
def t_law_innerX (K : PySem.W.Frag) (w : World) (s_law_is_name : Sp) : TS :=
  (tSeq (tIfS (tOr (tNot (tTru K (tCB (rIsiG K) (tCons (tVar 0) (tCons (tC (.ty "tuple")) tNil))))) (tOr (tTest (tOp rLtG (tCB (rLenG K) (tCons (tVar 0) tNil)) (tC (.int 2)))) (tNot (tTru K (tCB (rIsiG K) (tCons (tIxG K w (tVar 0) (tC (.int 0))) (tCons (tC (.ty "str")) tNil))))))) (tRet (tC .non)) tNext)
  (tSeq (tAsg (tDispN (((tC (.str "give")), (tC (.int 2))) :: (((tC (.str "plus")), (tC (.int 2))) :: (((tC (.str "less")), (tC (.int 2))) :: (((tC (.str "times")), (tC (.int 2))) :: (((tC (.str "below")), (tC (.int 2))) :: (((tC (.str "when")), (tC (.int 3))) :: (((tC (.str "pair")), (tC (.int 2))) :: (((tC (.str "left")), (tC (.int 1))) :: (((tC (.str "right")), (tC (.int 1))) :: [])))))))))) (gName 1))
  (tSeq (tIfS (tAnd (tTest (tOp (rInG K w false) (tIxG K w (tVar 0) (tC (.int 0))) (tVar 1))) (tTest (tOp (rEqG K) (tCB (rLenG K) (tCons (tVar 0) tNil)) (tOp (rAddG K) (tIxG K w (tVar 1) (tIxG K w (tVar 0) (tC (.int 0)))) (tC (.int 1)))))) (tRet (tCB (rListG K) (tCons (tSl (rSlG K) (tVar 0) (tPart (tC (.int 1))) tNoPart) tNil))) tNext)
  (tSeq (tIfS (tAnd (tTest (tOp (rInG K w false) (tIxG K w (tVar 0) (tC (.int 0))) (tTupN (tCons (tC (.str "name")) (tCons (tC (.str "fun")) tNil))))) (tAnd (tTest (tOp (rEqG K) (tCB (rLenG K) (tCons (tVar 0) tNil)) (tC (.int 2)))) (tTru K (tCall s_law_is_name [] E0 (tCons (tIxG K w (tVar 0) (tC (.int 1))) tNil))))) (tRet (tLstN tNil)) tNext)
  (tSeq (tIfS (tAnd (tTest (tOp (rEqG K) (tIxG K w (tVar 0) (tC (.int 0))) (tC (.str "number")))) (tAnd (tTest (tOp (rEqG K) (tCB (rLenG K) (tCons (tVar 0) tNil)) (tC (.int 2)))) (tAnd (tTru K (tCB (rIsiG K) (tCons (tIxG K w (tVar 0) (tC (.int 1))) (tCons (tC (.ty "int")) tNil)))) (tNot (tTru K (tCB (rIsiG K) (tCons (tIxG K w (tVar 0) (tC (.int 1))) (tCons (tC (.ty "bool")) tNil)))))))) (tRet (tIf (tTest (tOp rLtG (tCB rAbsG (tCons (tIxG K w (tVar 0) (tC (.int 1))) tNil)) (tOp rPowG (tC (.int 10)) (tC (.int 60))))) (tLstN tNil) (tC .non))) tNext)
  (tSeq (tIfS (tAnd (tTest (tOp (rEqG K) (tIxG K w (tVar 0) (tC (.int 0))) (tC (.str "let")))) (tAnd (tTest (tOp (rEqG K) (tCB (rLenG K) (tCons (tVar 0) tNil)) (tC (.int 3)))) (tAnd (tTru K (tCB (rIsiG K) (tCons (tIxG K w (tVar 0) (tC (.int 1))) (tCons (tC (.ty "tuple")) tNil)))) (tTest (tChain rLeG rLeG (tC (.int 1)) (tCB (rLenG K) (tCons (tIxG K w (tVar 0) (tC (.int 1))) tNil)) (tC (.int 4))))))) (tSeq (tFor (iSeq K (tIxG K w (tVar 0) (tC (.int 1)))) (gName 2) (tIfS (tOr (tNot (tTru K (tCB (rIsiG K) (tCons (tVar 2) (tCons (tC (.ty "tuple")) tNil))))) (tOr (tTest (tOp (rNeG K) (tCB (rLenG K) (tCons (tVar 2) tNil)) (tC (.int 2)))) (tNot (tTru K (tCall s_law_is_name [] E0 (tCons (tIxG K w (tVar 2) (tC (.int 0))) tNil)))))) (tRet (tC .non)) tNext))
  (tRet (tOp (rAddG K) (tLc (iSeq K (tIxG K w (tVar 0) (tC (.int 1)))) (gName 2) tYes (tIxG K w (tVar 2) (tC (.int 1))) [2]) (tLstN (tCons (tIxG K w (tVar 0) (tC (.int 2))) tNil))))) tNext)
  (tRet (tC .non))))))))
def t_law_is_body (K : PySem.W.Frag) (w : World) (s_law_inner : Sp) : TS :=
  (tSeq (tAsg (tLstN (tCons (tTupN (tCons (tVar 0) (tCons (tC (.int 1)) tNil))) tNil)) (gName 1))
  (tSeq (tAsg (tC (.int 0)) (gName 2))
  (tSeq (tWhile (tTest (tOp rLtG (tVar 2) (tCB (rLenG K) (tCons (tVar 1) tNil)))) (tSeq (tAsg (tIxG K w (tVar 1) (tVar 2)) (gTup K 2 (gCons (gName 3) (gCons (gName 4) gNil))))
  (tSeq (tAsg (tCall s_law_inner [] E0 (tCons (tVar 3) tNil)) (gName 5))
  (tSeq (tIfS (tOr (tTest (tOp (rIsG false) (tVar 5) (tC .non))) (tOr (tTest (tOp rGtG (tVar 4) (tC (.int 12)))) (tTest (tOp rGtG (tVar 2) (tC (.int 59)))))) (tRet (tC (.bl false))) tNext)
  (tSeq (tDrop (tBM K "list" rExtendG (tVar 1) (tCons (tLc (iSeq K (tVar 5)) (gName 6) tYes (tTupN (tCons (tVar 6) (tCons (tOp (rAddG K) (tVar 4) (tC (.int 1))) tNil))) [6]) tNil)))
  (tAsg (tOp (rAddG K) (tVar 2) (tC (.int 1))) (gName 2)))))))
  (tRet (tC (.bl true))))))
def t_law_is_function (K : PySem.W.Frag) (w : World) (s_law_is_name : Sp) (s_law_is_body : Sp) : TS :=
  (tSeq (tIfS (tOr (tNot (tTru K (tCB (rIsiG K) (tCons (tVar 0) (tCons (tC (.ty "tuple")) tNil))))) (tOr (tTest (tOp (rNeG K) (tCB (rLenG K) (tCons (tVar 0) tNil)) (tC (.int 3)))) (tOr (tNot (tTru K (tCall s_law_is_name [] E0 (tCons (tIxG K w (tVar 0) (tC (.int 0))) tNil)))) (tNot (tTru K (tCall s_law_is_body [] E0 (tCons (tIxG K w (tVar 0) (tC (.int 2))) tNil))))))) (tRet (tC (.bl false))) tNext)
  (tSeq (tIfS (tOr (tNot (tTru K (tCB (rIsiG K) (tCons (tIxG K w (tVar 0) (tC (.int 1))) (tCons (tC (.ty "tuple")) tNil))))) (tTest (tOp rGtG (tCB (rLenG K) (tCons (tIxG K w (tVar 0) (tC (.int 1))) tNil)) (tC (.int 4))))) (tRet (tC (.bl false))) tNext)
  (tRet (tOp (rEqG K) (tLc (iSeq K (tIxG K w (tVar 0) (tC (.int 1)))) (gName 1) (tNot (tTru K (tCall s_law_is_name [] E0 (tCons (tVar 1) tNil)))) (tVar 1) [1]) (tLstN tNil)))))
def t_law_lets (K : PySem.W.Frag) (w : World) (s_law_inner : Sp) (s_law_lets : Sp) : TS :=
  (tSeq (tAsg (tLstN tNil) (gName 1))
  (tSeq (tIfS (tTest (tOp (rEqG K) (tIxG K w (tVar 0) (tC (.int 0))) (tC (.str "let")))) (tAsg (tLc (iSeq K (tIxG K w (tVar 0) (tC (.int 1)))) (gName 2) tYes (tIxG K w (tVar 2) (tC (.int 0))) [2]) (gName 1)) tNext)
  (tSeq (tFor (iSeq K (tCall s_law_inner [] E0 (tCons (tVar 0) tNil))) (gName 3) (tAsg (tOp (rAddG K) (tVar 1) (tCall s_law_lets [] E0 (tCons (tVar 3) tNil))) (gName 1)))
  (tRet (tVar 1)))))
def t_law_strange (K : PySem.W.Frag) (w : World) (s_law_inner : Sp) (s_law_strange : Sp) : TS :=
  (tSeq (tIfS (tOr (tAnd (tTest (tOp (rEqG K) (tIxG K w (tVar 0) (tC (.int 0))) (tC (.str "name")))) (tTest (tOp (rInG K w true) (tIxG K w (tVar 0) (tC (.int 1))) (tVar 1)))) (tAnd (tTest (tOp (rEqG K) (tIxG K w (tVar 0) (tC (.int 0))) (tC (.str "fun")))) (tTest (tOp (rInG K w true) (tIxG K w (tVar 0) (tC (.int 1))) (tVar 2))))) (tRet (tIxG K w (tVar 0) (tC (.int 1)))) tNext)
  (tSeq (tIfS (tTest (tOp (rEqG K) (tIxG K w (tVar 0) (tC (.int 0))) (tC (.str "let")))) (tAsg (tOp (rAddG K) (tVar 1) (tLc (iSeq K (tIxG K w (tVar 0) (tC (.int 1)))) (gName 3) tYes (tIxG K w (tVar 3) (tC (.int 0))) [3])) (gName 1)) tNext)
  (tSeq (tFor (iSeq K (tCall s_law_inner [] E0 (tCons (tVar 0) tNil))) (gName 4) (tSeq (tAsg (tCall s_law_strange [] E0 (tCons (tVar 4) (tCons (tVar 1) (tCons (tVar 2) tNil)))) (gName 5))
  (tIfS (tTest (tOp (rNeG K) (tVar 5) (tC (.str "")))) (tRet (tVar 5)) tNext)))
  (tRet (tC (.str ""))))))
def t_law_due (K : PySem.W.Frag) (w : World) (s_law_is_function : Sp) (s_law_is_body : Sp) (s_law_lets : Sp) (s_law_strange : Sp) : TS :=
  (tSeq (tIfS (tOr (tNot (tTru K (tCB (rIsiG K) (tCons (tVar 0) (tCons (tC (.ty "tuple")) tNil))))) (tOr (tTest (tOp (rNeG K) (tCB (rLenG K) (tCons (tVar 0) tNil)) (tC (.int 2)))) (tOr (tNot (tTru K (tCB (rIsiG K) (tCons (tIxG K w (tVar 0) (tC (.int 0))) (tCons (tC (.ty "tuple")) tNil))))) (tTest (tOp rGtG (tCB (rLenG K) (tCons (tIxG K w (tVar 0) (tC (.int 0))) tNil)) (tC (.int 8))))))) (tRet (tTupN (tCons (tC (.str "program")) (tCons (tC (.str "")) tNil)))) tNext)
  (tSeq (tIfS (tOr (tTest (tOp (rNeG K) (tLc (iSeq K (tIxG K w (tVar 0) (tC (.int 0)))) (gName 1) (tNot (tTru K (tCall s_law_is_function [] E0 (tCons (tVar 1) tNil)))) (tVar 1) [1]) (tLstN tNil))) (tNot (tTru K (tCall s_law_is_body [] E0 (tCons (tIxG K w (tVar 0) (tC (.int 1))) tNil))))) (tRet (tTupN (tCons (tC (.str "program")) (tCons (tC (.str "")) tNil)))) tNext)
  (tSeq (tAsg (tLc (iSeq K (tIxG K w (tVar 0) (tC (.int 0)))) (gName 1) tYes (tIxG K w (tVar 1) (tC (.int 0))) [1]) (gName 2))
  (tSeq (tFor (iRng1 (tCons (tCB (rLenG K) (tCons (tVar 2) tNil)) tNil)) (gName 3) (tIfS (tTest (tOp (rInG K w false) (tIxG K w (tVar 2) (tVar 3)) (tSl (rSlG K) (tVar 2) tNoPart (tPart (tVar 3))))) (tRet (tTupN (tCons (tC (.str "twice")) (tCons (tIxG K w (tVar 2) (tVar 3)) tNil)))) tNext))
  (tSeq (tFor (iSeq K (tOp (rAddG K) (tLc (iSeq K (tIxG K w (tVar 0) (tC (.int 0)))) (gName 1) tYes (tTupN (tCons (tIxG K w (tVar 1) (tC (.int 1))) (tCons (tIxG K w (tVar 1) (tC (.int 2))) tNil))) [1]) (tLstN (tCons (tTupN (tCons (tTupN tNil) (tCons (tIxG K w (tVar 0) (tC (.int 1))) tNil))) tNil)))) (gTup K 2 (gCons (gName 4) (gCons (gName 5) gNil))) (tSeq (tAsg (tOp (rAddG K) (tCB (rListG K) (tCons (tVar 4) tNil)) (tCall s_law_lets [] E0 (tCons (tVar 5) tNil))) (gName 6))
  (tSeq (tFor (iRng1 (tCons (tCB (rLenG K) (tCons (tVar 6) tNil)) tNil)) (gName 3) (tIfS (tTest (tOp (rInG K w false) (tIxG K w (tVar 6) (tVar 3)) (tSl (rSlG K) (tVar 6) tNoPart (tPart (tVar 3))))) (tRet (tTupN (tCons (tC (.str "hidden")) (tCons (tIxG K w (tVar 6) (tVar 3)) tNil)))) tNext))
  (tSeq (tAsg (tCall s_law_strange [] E0 (tCons (tVar 5) (tCons (tCB (rListG K) (tCons (tVar 4) tNil)) (tCons (tVar 2) tNil)))) (gName 7))
  (tIfS (tTest (tOp (rNeG K) (tVar 7) (tC (.str "")))) (tRet (tTupN (tCons (tC (.str "stranger")) (tCons (tVar 7) tNil)))) tNext)))))
  (tRet (tTupN (tCons (tC (.str "")) (tCons (tC (.str "")) tNil)))))))))
def t_law_figures (K : PySem.W.Frag) (w : World) : TS :=
  (tSeq (tAsg (tIf (tTest (tOp (rEqG K) (tSl (rSlG K) (tVar 0) tNoPart (tPart (tC (.int 1)))) (tC (.str "-")))) (tSl (rSlG K) (tVar 0) (tPart (tC (.int 1))) tNoPart) (tVar 0)) (gName 1))
  (tSeq (tIfS (tOr (tTest (tOp rLtG (tCB (rLenG K) (tCons (tVar 1) tNil)) (tC (.int 1)))) (tOr (tTest (tOp rGtG (tCB (rLenG K) (tCons (tVar 1) tNil)) (tC (.int 60)))) (tTest (tOp (rNeG K) (tLc (iSeq K (tVar 1)) (gName 2) (tTest (tOp (rInG K w true) (tVar 2) (tC (.str "0123456789")))) (tVar 2) [2]) (tLstN tNil))))) (tRet (tC (.bl false))) tNext)
  (tRet (tOrT K (tOp (rEqG K) (tVar 0) (tC (.str "0"))) (tOp (rNeG K) (tIxG K w (tVar 1) (tC (.int 0))) (tC (.str "0")))))))
def t_law_marked (K : PySem.W.Frag) (w : World) (s_law_is_name : Sp) : TS :=
  (tRet (tAndT K (tOp (rEqG K) (tSl (rSlG K) (tVar 0) tNoPart (tPart (tC (.int 1)))) (tVar 1)) (tCall s_law_is_name [] E0 (tCons (tSl (rSlG K) (tVar 0) (tPart (tC (.int 1))) tNoPart) tNil))))
def t_law_part_wrong (K : PySem.W.Frag) (w : World) (s_law_marked : Sp) (s_law_figures : Sp) : TS :=
  (tSeq (tAsg (tDispN (((tC (.str "give")), (tC (.int 2))) :: (((tC (.str "plus")), (tC (.int 2))) :: (((tC (.str "less")), (tC (.int 2))) :: (((tC (.str "times")), (tC (.int 2))) :: (((tC (.str "below")), (tC (.int 2))) :: (((tC (.str "when")), (tC (.int 3))) :: (((tC (.str "pair")), (tC (.int 2))) :: (((tC (.str "left")), (tC (.int 1))) :: (((tC (.str "right")), (tC (.int 1))) :: [])))))))))) (gName 2))
  (tSeq (tAsg (tLstN (tCons (tTupN (tCons (tC (.str "part")) (tCons (tC (.int 1)) tNil))) tNil)) (gName 3))
  (tSeq (tAsg (tC (.int 0)) (gName 4))
  (tSeq (tWhile (tTest (tOp (rNeG K) (tVar 3) (tLstN tNil))) (tSeq (tAsg (tBM0 K "list" rPopG (tVar 3)) (gTup K 2 (gCons (gName 5) (gCons (gName 6) gNil))))
  (tSeq (tAsg (tIxG K w (tOp (rAddG K) (tSl (rSlG K) (tVar 0) (tPart (tVar 1)) tNoPart) (tLstN (tCons (tC (.str "")) tNil))) (tC (.int 0))) (gName 7))
  (tSeq (tAsg (tIf (tTest (tOp (rEqG K) (tVar 5) (tC (.str "mark")))) (tCall s_law_marked [] E0 (tCons (tVar 7) (tCons (tC (.str ".")) tNil))) (tOp (rInG K w false) (tVar 7) (tTupN (tCons (tC (.str "1")) (tCons (tC (.str "2")) (tCons (tC (.str "3")) (tCons (tC (.str "4")) tNil))))))) (gName 8))
  (tSeq (tIfS (tTest (tOp (rEqG K) (tVar 5) (tC (.str "part")))) (tSeq (tAsg (tOrT K (tCall s_law_figures [] E0 (tCons (tVar 7) tNil)) (tOrT K (tCall s_law_marked [] E0 (tCons (tVar 7) (tCons (tC (.str ".")) tNil))) (tOrT K (tCall s_law_marked [] E0 (tCons (tVar 7) (tCons (tC (.str ":")) tNil))) (tOp (rInG K w false) (tVar 7) (tVar 2))))) (gName 8))
  (tSeq (tAsg (tAndT K (tOrT K (tVar 8) (tOp (rEqG K) (tVar 7) (tC (.str "let")))) (tAndT K (tOp rLeG (tVar 6) (tC (.int 12))) (tOp rLtG (tVar 4) (tC (.int 60))))) (gName 8))
  (tAsg (tOp (rAddG K) (tVar 4) (tC (.int 1))) (gName 4)))) tNext)
  (tSeq (tIfS (tOr (tNot (tTru K (tVar 8))) (tTest (tOp (rEqG K) (tVar 1) (tCB (rLenG K) (tCons (tVar 0) tNil))))) (tRet (tVar 1)) tNext)
  (tSeq (tAsg (tOp (rAddG K) (tVar 1) (tC (.int 1))) (gName 1))
  (tSeq (tIfS (tTest (tOp (rEqG K) (tVar 5) (tC (.str "part")))) (tSeq (tAsg (tOp (rAddG K) (tVar 3) (tOp rRepG (tLstN (tCons (tTupN (tCons (tC (.str "part")) (tCons (tOp (rAddG K) (tVar 6) (tC (.int 1))) tNil))) tNil)) (tDGet2 (tVar 2) (tVar 7) (tC (.int 0))))) (gName 3))
  (tIfS (tTest (tOp (rEqG K) (tVar 7) (tC (.str "let")))) (tDrop (tBM K "list" rAppendG (tVar 3) (tCons (tTupN (tCons (tC (.str "many")) (tCons (tOp (rAddG K) (tVar 6) (tC (.int 1))) tNil))) tNil))) tNext)) tNext)
  (tIfS (tTest (tOp (rEqG K) (tVar 5) (tC (.str "many")))) (tAsg (tOp (rAddG K) (tOp (rAddG K) (tVar 3) (tLstN (tCons (tTupN (tCons (tC (.str "part")) (tCons (tVar 6) tNil))) tNil))) (tOp rRepG (tLstN (tCons (tTupN (tCons (tC (.str "part")) (tCons (tVar 6) tNil))) (tCons (tTupN (tCons (tC (.str "mark")) (tCons (tVar 6) tNil))) tNil))) (tCB rIntA (tCons (tVar 7) tNil)))) (gName 3)) tNext)))))))))
  (tRet (tIf (tTest (tOp (rEqG K) (tVar 1) (tCB (rLenG K) (tCons (tVar 0) tNil)))) (tC .non) (tVar 1)))))))
def t_law_row_wrong (K : PySem.W.Frag) (w : World) (s_law_is_name : Sp) (s_law_marked : Sp) (s_law_part_wrong : Sp) : TS :=
  (tSeq (tIfS (tNot (tTru K (tCall s_law_is_name [] E0 (tCons (tIxG K w (tVar 0) (tC (.int 0))) tNil)))) (tRet (tC (.int 0))) tNext)
  (tSeq (tAsg (tC (.int 1)) (gName 1))
  (tSeq (tWhile (tAnd (tTest (tOp rLtG (tVar 1) (tCB (rLenG K) (tCons (tVar 0) tNil)))) (tAnd (tTest (tOp rLtG (tVar 1) (tC (.int 5)))) (tTru K (tCall s_law_marked [] E0 (tCons (tIxG K w (tVar 0) (tVar 1)) (tCons (tC (.str ".")) tNil)))))) (tAsg (tOp (rAddG K) (tVar 1) (tC (.int 1))) (gName 1)))
  (tSeq (tIfS (tOr (tTest (tOp (rEqG K) (tVar 1) (tCB (rLenG K) (tCons (tVar 0) tNil)))) (tTest (tOp (rNeG K) (tIxG K w (tVar 0) (tVar 1)) (tC (.str "="))))) (tRet (tVar 1)) tNext)
  (tRet (tCall s_law_part_wrong [] E0 (tCons (tVar 0) (tCons (tOp (rAddG K) (tVar 1) (tC (.int 1))) tNil))))))))
def t_law_built (K : PySem.W.Frag) (w : World) (s_law_figures : Sp) (s_law_built : Sp) : TS :=
  (tSeq (tAsg (tIxG K w (tVar 0) (tIxG K w (tVar 1) (tC (.int 0)))) (gName 2))
  (tSeq (tAsg (tOp (rAddG K) (tIxG K w (tVar 1) (tC (.int 0))) (tC (.int 1))) (gSub (tVar 1) (tC (.int 0)) rSetG))
  (tSeq (tIfS (tTru K (tCall s_law_figures [] E0 (tCons (tVar 2) tNil))) (tRet (tTupN (tCons (tC (.str "number")) (tCons (tCB rIntA (tCons (tVar 2) tNil)) tNil)))) tNext)
  (tSeq (tIfS (tTest (tOp (rInG K w false) (tIxG K w (tVar 2) (tC (.int 0))) (tC (.str ".:")))) (tRet (tTupN (tCons (tIxG K w (tLstN (tCons (tC (.str "name")) (tCons (tC (.str "fun")) tNil))) (tCB rIntG (tCons (tOp (rEqG K) (tIxG K w (tVar 2) (tC (.int 0))) (tC (.str ":"))) tNil))) (tCons (tSl (rSlG K) (tVar 2) (tPart (tC (.int 1))) tNoPart) tNil)))) tNext)
  (tSeq (tIfS (tTest (tOp (rNeG K) (tVar 2) (tC (.str "let")))) (tSeq (tAsg (tDGet2 (tDispN (((tC (.str "when")), (tC (.int 3))) :: (((tC (.str "left")), (tC (.int 1))) :: (((tC (.str "right")), (tC (.int 1))) :: [])))) (tVar 2) (tC (.int 2))) (gName 3))
  (tRet (tCB (rTupleG K) (tCons (tOp (rAddG K) (tLstN (tCons (tVar 2) tNil)) (tLc (iRng1 (tCons (tVar 3) tNil)) (gName 4) tYes (tCall s_law_built [] E0 (tCons (tVar 0) (tCons (tVar 1) tNil))) [4])) tNil)))) tNext)
  (tSeq (tAsg (tCB rIntA (tCons (tIxG K w (tVar 0) (tIxG K w (tVar 1) (tC (.int 0)))) tNil)) (gName 3))
  (tSeq (tAsg (tOp (rAddG K) (tIxG K w (tVar 1) (tC (.int 0))) (tC (.int 1))) (gSub (tVar 1) (tC (.int 0)) rSetG))
  (tSeq (tAsg (tLstN tNil) (gName 5))
  (tSeq (tFor (iRng1 (tCons (tVar 3) tNil)) (gName 4) (tSeq (tAsg (tOp (rAddG K) (tIxG K w (tVar 1) (tC (.int 0))) (tC (.int 1))) (gSub (tVar 1) (tC (.int 0)) rSetG))
  (tDrop (tBM K "list" rAppendG (tVar 5) (tCons (tTupN (tCons (tSl (rSlG K) (tIxG K w (tVar 0) (tOp rSubG (tIxG K w (tVar 1) (tC (.int 0))) (tC (.int 1)))) (tPart (tC (.int 1))) tNoPart) (tCons (tCall s_law_built [] E0 (tCons (tVar 0) (tCons (tVar 1) tNil))) tNil))) tNil)))))
  (tRet (tTupN (tCons (tC (.str "let")) (tCons (tCB (rTupleG K) (tCons (tVar 5) tNil)) (tCons (tCall s_law_built [] E0 (tCons (tVar 0) (tCons (tVar 1) tNil))) tNil))))))))))))))
def t_law_read (K : PySem.W.Frag) (w : World) (s_law_part_wrong : Sp) (s_law_row_wrong : Sp) (s_law_built : Sp) : TS :=
  (tSeq (tAsg (tLstN tNil) (gName 1))
  (tSeq (tAsg (tC .non) (gName 2))
  (tSeq (tAsg (tLc (iSeq K (tM1 rSplitG (tVar 0) (tC (.str "\n")))) (gName 4) tYes (tM1 rSplitG (tVar 4) (tC (.str " "))) [4]) (gName 3))
  (tSeq (tFor (iEnum K (tCons (tVar 3) tNil)) (gTup K 2 (gCons (gName 5) (gCons (gName 6) gNil))) (tSeq (tIfS (tOr (tTest (tOp (rIsG true) (tVar 2) (tC .non))) (tAnd (tTest (tOp (rNeG K) (tIxG K w (tVar 6) (tC (.int 0))) (tC (.str "?")))) (tTest (tOp (rEqG K) (tCB (rLenG K) (tCons (tVar 1) tNil)) (tC (.int 8)))))) (tRet (tTupN (tCons (tC (.str "text")) (tCons (tVar 5) (tCons (tC (.int 0)) tNil))))) tNext)
  (tSeq (tAsg (tIf (tTest (tOp (rEqG K) (tIxG K w (tVar 6) (tC (.int 0))) (tC (.str "?")))) (tCall s_law_part_wrong [] E0 (tCons (tVar 6) (tCons (tC (.int 1)) tNil))) (tCall s_law_row_wrong [] E0 (tCons (tVar 6) tNil))) (gName 7))
  (tSeq (tIfS (tTest (tOp (rIsG true) (tVar 7) (tC .non))) (tRet (tTupN (tCons (tC (.str "text")) (tCons (tVar 5) (tCons (tVar 7) tNil))))) tNext)
  (tIfS (tTest (tOp (rEqG K) (tIxG K w (tVar 6) (tC (.int 0))) (tC (.str "?")))) (tAsg (tCall s_law_built [] E0 (tCons (tVar 6) (tCons (tLstN (tCons (tC (.int 1)) tNil)) tNil))) (gName 2)) (tSeq (tAsg (tBM K "list" (rIndex K) (tVar 6) (tCons (tC (.str "=")) tNil)) (gName 8))
  (tDrop (tBM K "list" rAppendG (tVar 1) (tCons (tTupN (tCons (tIxG K w (tVar 6) (tC (.int 0))) (tCons (tCB (rTupleG K) (tCons (tLc (iSeq K (tSl (rSlG K) (tVar 6) (tPart (tC (.int 1))) (tPart (tVar 8)))) (gName 9) tYes (tSl (rSlG K) (tVar 9) (tPart (tC (.int 1))) tNoPart) [9]) tNil)) (tCons (tCall s_law_built [] E0 (tCons (tVar 6) (tCons (tLstN (tCons (tOp (rAddG K) (tVar 8) (tC (.int 1))) tNil)) tNil))) tNil)))) tNil)))))))))
  (tRet (tIf (tTest (tOp (rIsG false) (tVar 2) (tC .non))) (tTupN (tCons (tC (.str "text")) (tCons (tCB (rLenG K) (tCons (tVar 3) tNil)) (tCons (tC (.int 0)) tNil)))) (tTupN (tCons (tC (.str "")) (tCons (tTupN (tCons (tCB (rTupleG K) (tCons (tVar 1) tNil)) (tCons (tVar 2) tNil))) tNil)))))))))
def t_law_reads (K : PySem.W.Frag) (w : World) (s_read : Sp) : TS :=
  (tSeq (tAsg (tC .non) (gName 1))
  (tSeq (tAsg (tC .non) (gName 2))
  (tSeq (tTryK K (.ref (He.ga K "LazyError")) 3 (fun W => (tAsg (tCallS s_read (WE W) (tCons (tVar 0) tNil)) (gName 1))) (fun _ _ _ => (tAsg (tVar 3) (gName 2))))
  (tSeq (tIfS (tTest (tOp (rIsG false) (tVar 2) (tC .non))) (tRet (tTupN (tCons (tC (.str "")) (tCons (tVar 1) tNil)))) tNext)
  (tSeq (tAsg (tLstN (tCons (tCB (rIsiX K) (tCons (tVar 2) (tCons (tC (.ref (He.ga K "NoProgram"))) tNil))) (tCons (tCB (rIsiX K) (tCons (tVar 2) (tCons (tC (.ref (He.ga K "Twice"))) tNil))) (tCons (tCB (rIsiX K) (tCons (tVar 2) (tCons (tC (.ref (He.ga K "Hidden"))) tNil))) tNil)))) (gName 4))
  (tSeq (tAsg (tOp (rAddG K) (tVar 4) (tLstN (tCons (tCB (rIsiX K) (tCons (tVar 2) (tCons (tC (.ref (He.ga K "Stranger"))) tNil))) (tCons (tCB (rIsiX K) (tCons (tVar 2) (tCons (tC (.ref (He.ga K "NoText"))) tNil))) (tCons (tCB (rIsiX K) (tCons (tVar 2) (tCons (tC (.ref (He.ga K "More"))) tNil))) tNil))))) (gName 4))
  (tSeq (tAsg (tOp (rAddG K) (tVar 4) (tLstN (tCons (tCB (rIsiX K) (tCons (tVar 2) (tCons (tC (.ref (He.ga K "NoRows"))) tNil))) (tCons (tCB (rIsiX K) (tCons (tVar 2) (tCons (tC (.ref (He.ga K "NoRow"))) tNil))) tNil)))) (gName 4))
  (tSeq (tIfS (tOr (tTest (tOp (rNeG K) (tBM K "list" (rCount K) (tVar 4) (tCons (tC (.bl true)) tNil)) (tC (.int 1)))) (tNot (tTru K (tCB (rIsiX K) (tCons (tVar 2) (tCons (tC (.ty "ValueError")) tNil)))))) (tRet (tTupN (tCons (tC (.str "none")) tNil))) tNext)
  (tSeq (tIfS (tTru K (tIxG K w (tVar 4) (tC (.int 4)))) (tRet (tTupN (tCons (tC (.str "text")) (tCons (tFldX K "row" (tVar 2)) (tCons (tFldX K "word" (tVar 2)) tNil))))) tNext)
  (tRet (tTupN (tCons (tIxG K w (tLstN (tCons (tC (.str "program")) (tCons (tC (.str "twice")) (tCons (tC (.str "hidden")) (tCons (tC (.str "stranger")) (tCons (tC (.str "")) (tCons (tC (.str "")) (tCons (tC (.str "")) (tCons (tC (.str "")) tNil))))))))) (tBM K "list" (rIndex K) (tVar 4) (tCons (tC (.bl true)) tNil))) (tCons (tFldX K "name" (tVar 2)) tNil)))))))))))))
def t_law_right (K : PySem.W.Frag) (w : World) (s_law_read : Sp) (s_law_due : Sp) (s_law_reads : Sp) : TS :=
  (tSeq (tAsg (tCall s_law_read [] E0 (tCons (tVar 0) tNil)) (gName 1))
  (tSeq (tIfS (tTest (tOp (rEqG K) (tIxG K w (tVar 1) (tC (.int 0))) (tC (.str "")))) (tSeq (tAsg (tCall s_law_due [] E0 (tCons (tIxG K w (tVar 1) (tC (.int 1))) tNil)) (gName 2))
  (tAsg (tIf (tTest (tOp (rEqG K) (tIxG K w (tVar 2) (tC (.int 0))) (tC (.str "")))) (tVar 1) (tVar 2)) (gName 1))) tNext)
  (tSeq (tAsg (tCall s_law_reads [] E0 (tCons (tVar 0) tNil)) (gName 3))
  (tRet (tAndT K (tOp (rEqG K) (tVar 3) (tVar 1)) (tOrT K (tOp (rNeG K) (tIxG K w (tVar 1) (tC (.int 0))) (tC (.str "text"))) (tNotT K (tCB (rIsiG K) (tCons (tIxG K w (tVar 3) (tC (.int 2))) (tCons (tC (.ty "bool")) tNil))))))))))
def t_law_wide (K : PySem.W.Frag) (w : World) (s_law_wide : Sp) : TS :=
  (tSeq (tIfS (tTest (tOp rLtG (tVar 0) (tC (.int 3)))) (tRet (tIf (tTest (tOp (rEqG K) (tVar 0) (tC (.int 1)))) (tLstN (tCons (tC (.str "1")) tNil)) (tLstN (tCons (tC (.str "left")) (tCons (tC (.str "1")) tNil))))) tNext)
  (tSeq (tAsg (tOp rDivG (tOp rSubG (tVar 0) (tC (.int 1))) (tC (.int 2))) (gName 1))
  (tRet (tOp (rAddG K) (tOp (rAddG K) (tLstN (tCons (tC (.str "pair")) tNil)) (tCall s_law_wide [] E0 (tCons (tVar 1) tNil))) (tCall s_law_wide [] E0 (tCons (tOp rSubG (tOp rSubG (tVar 0) (tC (.int 1))) (tVar 1)) tNil))))))
def t_law_great (K : PySem.W.Frag) (w : World) (s_law_draw : Sp) (s_law_wide : Sp) : TS :=
  (tSeq (tAsg (tCall s_law_draw [] E0 (tCons (tVar 0) (tCons (tC (.int 5)) tNil))) (gName 1))
  (tSeq (tIfS (tTest (tOp (rEqG K) (tVar 1) (tC (.int 0)))) (tSeq (tAsg (tOp (rAddG K) (tC (.int 57)) (tCall s_law_draw [] E0 (tCons (tVar 0) (tCons (tC (.int 7)) tNil)))) (gName 2))
  (tRet (tIxG K w (tLstN (tCons (tCall s_law_wide [] E0 (tCons (tVar 2) tNil)) (tCons (tOp (rAddG K) (tLstN (tCons (tC (.str "let")) (tCons (tC (.str "1")) (tCons (tC (.str ".e")) (tCons (tC (.str "1")) tNil))))) (tCall s_law_wide [] E0 (tCons (tOp rSubG (tVar 2) (tC (.int 2))) tNil))) tNil))) (tCall s_law_draw [] E0 (tCons (tVar 0) (tCons (tC (.int 2)) tNil)))))) tNext)
  (tSeq (tIfS (tTest (tOp (rEqG K) (tVar 1) (tC (.int 1)))) (tSeq (tAsg (tOp (rAddG K) (tLc (iRng1 (tCons (tOp (rAddG K) (tC (.int 10)) (tCall s_law_draw [] E0 (tCons (tVar 0) (tCons (tC (.int 4)) tNil)))) tNil)) (gName 4) tYes (tIxG K w (tLstN (tCons (tC (.str "left")) (tCons (tC (.str "right")) tNil))) (tCall s_law_draw [] E0 (tCons (tVar 0) (tCons (tC (.int 2)) tNil)))) [4]) (tLstN (tCons (tC (.str "1")) tNil))) (gName 3))
  (tSeq (tAsg (tLstN (tCons (tVar 3) (tCons (tOp (rAddG K) (tOp (rAddG K) (tLstN (tCons (tC (.str "let")) (tCons (tC (.str "1")) (tCons (tC (.str ".e")) tNil)))) (tSl (rSlG K) (tVar 3) (tPart (tC (.int 1))) tNoPart)) (tLstN (tCons (tC (.str ".e")) tNil))) (tCons (tOp (rAddG K) (tOp (rAddG K) (tLstN (tCons (tC (.str "let")) (tCons (tC (.str "1")) (tCons (tC (.str ".e")) (tCons (tC (.str "1")) tNil))))) (tSl (rSlG K) (tVar 3) (tPart (tC (.int 1))) (tPart (tUn (rU fun i => .int (-i)) (tC (.int 1)))))) (tLstN (tCons (tC (.str ".e")) tNil))) tNil)))) (gName 5))
  (tRet (tIxG K w (tVar 5) (tCall s_law_draw [] E0 (tCons (tVar 0) (tCons (tC (.int 3)) tNil))))))) tNext)
  (tSeq (tIfS (tTest (tOp (rEqG K) (tVar 1) (tC (.int 2)))) (tSeq (tAsg (tOp (rAddG K) (tC (.int 3)) (tCall s_law_draw [] E0 (tCons (tVar 0) (tCons (tC (.int 3)) tNil)))) (gName 2))
  (tSeq (tAsg (tLstN (tCons (tC (.str "let")) (tCons (tCB rStrG (tCons (tVar 2) tNil)) tNil))) (gName 3))
  (tSeq (tFor (iRng1 (tCons (tVar 2) tNil)) (gName 4) (tAsg (tOp (rAddG K) (tVar 3) (tLstN (tCons (tOp (rAddG K) (tC (.str ".")) (tIxG K w (tC (.str "abcde")) (tVar 4))) (tCons (tC (.str "1")) tNil)))) (gName 3)))
  (tRet (tOp (rAddG K) (tVar 3) (tLstN (tCons (tC (.str "2")) tNil))))))) tNext)
  (tSeq (tIfS (tTest (tOp (rEqG K) (tVar 1) (tC (.int 3)))) (tRet (tLstN (tCons (tOp (rAddG K) (tIxG K w (tLstN (tCons (tC (.str "")) (tCons (tC (.str "-")) tNil))) (tCall s_law_draw [] E0 (tCons (tVar 0) (tCons (tC (.int 2)) tNil)))) (tOp rMulS (tIxG K w (tC (.str "123456789")) (tCall s_law_draw [] E0 (tCons (tVar 0) (tCons (tC (.int 9)) tNil)))) (tOp (rAddG K) (tC (.int 59)) (tCall s_law_draw [] E0 (tCons (tVar 0) (tCons (tC (.int 3)) tNil)))))) tNil))) tNext)
  (tSeq (tAsg (tLstN (tCons (tC (.str "1")) tNil)) (gName 6))
  (tSeq (tFor (iRng1 (tCons (tC (.int 5)) tNil)) (gName 4) (tAsg (tOp (rAddG K) (tOp (rAddG K) (tLstN (tCons (tC (.str "plus")) tNil)) (tVar 6)) (tVar 6)) (gName 6)))
  (tRet (tSl (rSlG K) (tVar 6) tNoPart (tPart (tOp (rAddG K) (tCall s_law_draw [] E0 (tCons (tVar 0) (tCons (tCB (rLenG K) (tCons (tVar 6) tNil)) tNil))) (tC (.int 1)))))))))))))
def t_law_by_rows (K : PySem.W.Frag) (w : World) (s_law_draw : Sp) (s_law_great : Sp) : TS :=
  (tSeq (tPar 2 3 (tCons (tCall s_law_draw [] E0 (tCons (tVar 0) (tCons (tCB (rLenG K) (tCons (tVar 1) tNil)) tNil))) (tCons (tCall s_law_draw [] E0 (tCons (tVar 0) (tCons (tCB (rLenG K) (tCons (tVar 1) tNil)) tNil))) tNil)))
  (tSeq (tAsg (tSl (rSlG K) (tIxG K w (tVar 1) (tVar 2)) tNoPart (tPart (tC (.int 1)))) (gName 4))
  (tSeq (tIfS (tTest (tOp (rInG K w false) (tC (.str "=")) (tIxG K w (tVar 1) (tVar 2)))) (tAsg (tSl (rSlG K) (tIxG K w (tVar 1) (tVar 2)) tNoPart (tPart (tOp (rAddG K) (tBM K "list" (rIndex K) (tIxG K w (tVar 1) (tVar 2)) (tCons (tC (.str "=")) tNil)) (tC (.int 1))))) (gName 4)) tNext)
  (tSeq (tAsg (tLc (iRng1 (tCons (tC (.int 9)) tNil)) (gName 6) tYes (tLstN (tCons (tOp (rAddG K) (tC (.str "f")) (tIxG K w (tC (.str "abcdefghi")) (tVar 6))) (tCons (tC (.str "=")) (tCons (tC (.str "1")) tNil)))) [6]) (gName 5))
  (tSeq (tAsg (tLstN (tCons (tOp (rAddG K) (tOp (rAddG K) (tSl (rSlG K) (tVar 1) tNoPart (tPart (tVar 2))) (tLstN (tCons (tLstN (tCons (tC (.str "")) tNil)) tNil))) (tSl (rSlG K) (tVar 1) (tPart (tVar 2)) tNoPart)) (tCons (tOp (rAddG K) (tSl (rSlG K) (tVar 1) tNoPart (tPart (tVar 2))) (tSl (rSlG K) (tVar 1) (tPart (tOp (rAddG K) (tVar 2) (tC (.int 1)))) tNoPart)) (tCons (tOp (rAddG K) (tSl (rSlG K) (tVar 1) tNoPart (tPart (tOp (rAddG K) (tVar 2) (tC (.int 1))))) (tSl (rSlG K) (tVar 1) (tPart (tVar 2)) tNoPart)) (tCons (tOp (rAddG K) (tVar 1) (tLstN (tCons (tLstN (tCons (tC (.str "")) tNil)) tNil))) tNil))))) (gName 7))
  (tSeq (tAsg (tOp (rAddG K) (tOp (rAddG K) (tSl (rSlG K) (tVar 1) tNoPart (tPart (tVar 2))) (tLstN (tCons (tOp (rAddG K) (tVar 4) (tCall s_law_great [] E0 (tCons (tVar 0) tNil))) tNil))) (tSl (rSlG K) (tVar 1) (tPart (tOp (rAddG K) (tVar 2) (tC (.int 1)))) tNoPart)) (gName 8))
  (tSeq (tAsg (tOp (rAddG K) (tVar 7) (tOp rRepG (tLstN (tCons (tVar 8) tNil)) (tC (.int 5)))) (gName 7))
  (tSeq (tAsg (tOp (rAddG K) (tOp rSubG (tC (.int 9)) (tCB (rLenG K) (tCons (tVar 1) tNil))) (tCall s_law_draw [] E0 (tCons (tVar 0) (tCons (tC (.int 2)) tNil)))) (gName 9))
  (tSeq (tDrop (tBM K "list" rAppendG (tVar 7) (tCons (tOp (rAddG K) (tSl (rSlG K) (tVar 5) tNoPart (tPart (tVar 9))) (tVar 1)) tNil)))
  (tSeq (tDrop (tBM K "list" rAppendG (tVar 7) (tCons (tOp (rAddG K) (tOp (rAddG K) (tSl (rSlG K) (tVar 1) tNoPart (tPart (tVar 2))) (tLstN (tCons (tIxG K w (tVar 1) (tVar 3)) tNil))) (tSl (rSlG K) (tVar 1) (tPart (tOp (rAddG K) (tVar 2) (tC (.int 1)))) tNoPart)) tNil)))
  (tSeq (tAsg (tLc (iRng1 (tCons (tOp (rAddG K) (tC (.int 3)) (tCall s_law_draw [] E0 (tCons (tVar 0) (tCons (tC (.int 3)) tNil)))) tNil)) (gName 6) tYes (tOp (rAddG K) (tC (.str ".")) (tIxG K w (tC (.str "vwxyz")) (tVar 6))) [6]) (gName 10))
  (tSeq (tDrop (tBM K "list" rAppendG (tVar 7) (tCons (tOp (rAddG K) (tOp (rAddG K) (tSl (rSlG K) (tVar 1) tNoPart (tPart (tVar 2))) (tLstN (tCons (tOp (rAddG K) (tOp (rAddG K) (tLstN (tCons (tC (.str "g")) tNil)) (tVar 10)) (tLstN (tCons (tC (.str "=")) (tCons (tC (.str ".v")) tNil)))) tNil))) (tSl (rSlG K) (tVar 1) (tPart (tVar 2)) tNoPart)) tNil)))
  (tSeq (tDrop (tBM K "list" rAppendG (tVar 7) (tCons (tOp (rAddG K) (tVar 1) (tSl (rSlG K) (tVar 1) (tPart (tVar 2)) (tPart (tOp (rAddG K) (tVar 2) (tC (.int 1)))))) tNil)))
  (tRet (tIxG K w (tVar 7) (tCall s_law_draw [] E0 (tCons (tVar 0) (tCons (tCB (rLenG K) (tCons (tVar 7) tNil)) tNil))))))))))))))))))
def t_law (K : PySem.W.Frag) (w : World) (s_law_pen : Sp) (s_law_base : Sp) (s_law_by_rows : Sp) (s_law_draw : Sp) (s_law_right : Sp) (s_law_text : Sp) : TS :=
  (tSeq (tAsg (tCall s_law_pen [] E0 (tCons (tVar 0) tNil)) (gName 1))
  (tSeq (tFor (iRng1 (tCons (tCB rMax2 (tCons (tC (.int 1)) (tCons (tCB rMin2 (tCons (tC (.int 2)) (tCons (tCB (rLenG K) (tCons (tVar 0) tNil)) tNil))) tNil))) tNil)) (gName 2) (tSeq (tAsg (tCall s_law_base [] E0 (tCons (tVar 1) tNil)) (gName 3))
  (tSeq (tFor (iRng1 (tCons (tCB rMax2 (tCons (tC (.int 3)) (tCons (tCB rMin2 (tCons (tC (.int 10)) (tCons (tCB (rLenG K) (tCons (tVar 0) tNil)) tNil))) tNil))) tNil)) (gName 4) (tSeq (tAsg (tCall s_law_by_rows [] E0 (tCons (tVar 1) (tCons (tVar 3) tNil))) (gName 5))
  (tSeq (tIfS (tAnd (tTest (tOp (rEqG K) (tCall s_law_draw [] E0 (tCons (tVar 1) (tCons (tC (.int 3)) tNil))) (tC (.int 0)))) (tTest (tOp (rNeG K) (tVar 5) (tLstN tNil)))) (tAsg (tCall s_law_by_rows [] E0 (tCons (tVar 1) (tCons (tVar 5) tNil))) (gName 5)) tNext)
  (tIfS (tAnd (tTest (tOp (rNeG K) (tVar 5) (tLstN tNil))) (tNot (tTru K (tCall s_law_right [] E0 (tCons (tCall s_law_text [] E0 (tCons (tVar 5) tNil)) tNil))))) (tRet (tC (.bl false))) tNext))))
  (tIfS (tNot (tTru K (tCall s_law_right [] E0 (tCons (tCall s_law_text [] E0 (tCons (tVar 3) tNil)) tNil)))) (tRet (tC (.bl false))) tNext))))
  (tRet (tC (.bl true)))))
/-! ### the draws -/
theorem pen_ne {H : Hp} {pen L : Addr} {ns : List Int} {i j : Int} (hp : H pen = some (.lst [.ref L, .int i, .int j])) (hL : H L = some (.lst (ns.map V.int))) : L ≠ pen := by
  rintro rfl
  rw [hL] at hp
  have := congrArg (fun o => match o with | some (HO.lst (x :: _)) => (match x with | .ref _ => true | _ => false) | _ => false) hp
  cases ns <;> simp at this
/-- a pen: the script's list L, the turn, what is left of a great number -/
def PenAt (H : Hp) (pen L : Addr) : Prop := ∃ (ns : List Int) (at_ rest : Int), H pen = some (.lst [.ref L, .int at_, .int rest]) ∧ H L = some (.lst (ns.map V.int)) ∧ 0 ≤ at_ ∧ 0 ≤ rest ∧ ns.length ≤ 63
section
variable {H H' : Hp} {pen L d : Addr}
theorem PenAt.same (h : PenAt H pen L) (s : Same H H') : PenAt H' pen L := by
  obtain ⟨ns, a, r, hp, hL, x⟩ := h
  exact ⟨ns, a, r, s _ _ hp, s _ _ hL, x⟩
/-- a pen stays where another object changes -/
theorem PenAt.chg (h : PenAt H pen L) (c : Chg d H H') (n1 : pen ≠ d) (n2 : L ≠ d) : PenAt H' pen L := by
  obtain ⟨ns, a, r, hp, hL, x⟩ := h
  exact ⟨ns, a, r, c _ _ n1 hp, c _ _ n2 hL, x⟩
theorem PenAt.ne (h : PenAt H pen L) (hd : H d = none) : pen ≠ d ∧ L ≠ d := by
  obtain ⟨ns, a, r, hp, hL, x⟩ := h
  exact ⟨ne_of_none hp hd, ne_of_none hL hd⟩
end
def spDraw : Sp := fun vs H Q _ => ∃ (pen L : Addr) (many : Int), vs = [.ref pen, .int many] ∧ PenAt H pen L ∧ 0 < many ∧ many.natAbs < 2 ^ 250 ∧
  ∀ (v : Int) (H' : Hp), 0 ≤ v → v < many → PenAt H' pen L → Chg pen H H' → Q (.int v) H'
theorem g_draw {H : Hp} {Q : VK} {E : XK} {pen L : Addr} {many : Int} (h : PenAt H pen L) (h0 : 0 < many) (h1 : many.natAbs < 2 ^ 250) (q : ∀ (v : Int) (H' : Hp), 0 ≤ v → v < many → PenAt H' pen L → Chg pen H H' → Q (.int v) H') :
    spDraw ([.ref pen, .int many] ++ []) H Q E := ⟨pen, L, many, rfl, h, h0, h1, q⟩
theorem pure_draw {K : PySem.W.Frag} {w : World} : PureOk 2 spDraw (t_law_draw K w) 7 := by
  refine ⟨fun vs H Q E ⟨pen, L, many, e, _⟩ => by rw [e]; rfl, ?_⟩
  rintro vs H Q E ⟨pen, L, many, rfl, ⟨ns, at_, rest, hp, hL, h0, h1, hl⟩, hm, hmb, q'⟩
  have hne : L ≠ pen := pen_ne hp hL
  have q : ∀ (v a' r' : Int) (H' : Hp), 0 ≤ v → v < many → 0 ≤ a' → 0 ≤ r' → H' pen = some (.lst [.ref L, .int a', .int r']) → Chg pen H H' → Q (.int v) H' :=
    fun v a' r' H' v0 v1 a0 r0 e c => q' v H' v0 v1 ⟨ns, a', r', e, c L _ hne hL, a0, r0, hl⟩ c
  have hdw : ∀ x, CDivW x many := fun x => wide_div hm hmb (by decide) (by decide)
  have mod0 : ∀ x : Int, 0 ≤ x % many := fun x => Int.emod_nonneg x (Int.ne_of_gt hm)
  have mod1 : ∀ x : Int, x % many < many := fun x => Int.emod_lt_of_pos x hm
  show t_law_draw K w _ [some (.ref pen), some (.int many), none, none, none, none, none] H
  unfold t_law_draw
  walk_at "go"
  refine g_ite (fun hr => ?_) (fun _ => ?_)
  · walk_at "go"
    refine g_modI hm ?_
    walk_at "go"
    refine g_divI (hdw _) ?_
    walk_at "go"
    refine g_setL hp rfl fun H' e1 c1 => ?_
    walk_at "go"
    exact q _ at_ (rest / many) H' (mod0 _) (mod1 _) h0 (Int.ediv_nonneg h1 (Int.le_of_lt hm)) e1 c1
  · walk_at "go"
    refine g_setL hp rfl fun H1 e1 c1 => ?_
    have hL1 := c1 L _ hne hL
    walk_at "go"
    intro p H2 np e2 s2
    have hL2 := s2 _ _ hL1
    have hp2 := s2 _ _ e1
    walk_at "go"
    refine g_addL hL2 e2 (by show _ ≤ 16777216; simp; omega) fun p' H3 np' e3 s3 => ?_
    have hL3 := s3 _ _ hL2
    have hp3 := s3 _ _ hp2
    walk_at "go"
    refine g_lenL (.of hL3) ?_
    walk_at "go"
    refine g_modI (by omega) ?_
    have hat : ∃ c : Int, atI (List.map V.int ns ++ [V.int 7]) (at_ % max 1 ((List.map V.int ns).length : Int)) = some (.int c) := by
      have a0 := Int.emod_nonneg at_ (b := max 1 ((List.map V.int ns).length : Int)) (by omega)
      have a1 := Int.emod_lt_of_pos at_ (b := max 1 ((List.map V.int ns).length : Int)) (by omega)
      obtain ⟨v, h1, h2, _⟩ := atI_in (xs := List.map V.int ns ++ [V.int 7]) a0 (by rw [List.length_append, List.length_singleton]; omega)
      rw [List.mem_append, List.mem_map] at h2
      rcases h2 with ⟨c, _, rfl⟩ | h2
      · exact ⟨c, h1⟩
      · rw [List.mem_singleton] at h2
        exact ⟨7, h2 ▸ h1⟩
    obtain ⟨c, hc⟩ := hat
    refine g_ixL (.of e3) hc ?_
    walk_at "go"
    refine g_lenL (.of hL3) ?_
    walk_at "go"
    refine g_cut (B := ?B) ?f ?b
    case f =>
      intro tail
      refine g_ite (fun _ => ?_) (fun _ => ?_)
      · walk_at "go"
        refine g_powI ⟨by decide, by decide, by decide⟩ ?_
        walk_at "go"
        refine g_ite (fun hbig => ?_) (fun _ => ?_)
        · walk_at "go"
          refine g_divI (hdw _) ?_
          walk_at "go"
          refine g_setL hp3 rfl fun H4 e4 c4 => ?_
          walk_at "go"
          refine g_modI hm ?_
          exact q _ (at_ + 1) (c.natAbs / many) H4 (mod0 _) (mod1 _) (by omega) (Int.ediv_nonneg (by omega) (Int.le_of_lt hm)) e4 ((c1.trans (.same s2)).trans ((Chg.same s3).trans c4))
        · exact tail.out
      · refine g_F rfl ?_
        exact tail.out
    case b =>
      walk_at "go"
      intro p4 H4 np4 e4 s4
      walk_at "go"
      refine g_modI (by decide) ?_
      obtain ⟨pr, hpr, hmem⟩ : ∃ pr : Int, atI [V.int 2147483647, V.int 2147483629, V.int 2147483587, V.int 2147483579, V.int 2147483563, V.int 2147483549, V.int 2147483543] (at_ % 7) = some (.int pr) ∧ 0 < pr ∧ pr < 2 ^ 31 := by
        obtain ⟨v, h1, h2, _⟩ := atI_in (xs := [V.int 2147483647, V.int 2147483629, V.int 2147483587, V.int 2147483579, V.int 2147483563, V.int 2147483549, V.int 2147483543]) (Int.emod_nonneg at_ (by decide)) (Int.emod_lt_of_pos at_ (b := 7) (by decide))
        simp only [List.mem_cons, List.not_mem_nil, or_false] at h2
        rcases h2 with rfl | rfl | rfl | rfl | rfl | rfl | rfl <;> exact ⟨_, h1, by decide, by decide⟩
      refine g_ixL (.of e4) hpr ?_
      walk_at "go"
      refine g_modI (by decide) ?_
      walk_at "go"
      refine g_mulI (.inl ⟨by decide, by decide⟩) ?_
      walk_at "go"
      refine g_mulI (.inr ⟨by decide, by decide⟩) ?_
      walk_at "go"
      refine g_modI hmem.1 ?_
      have x0 := Int.emod_nonneg ((c % 2147483497 + 69621 * at_ + 13) * 48271) (Int.ne_of_gt hmem.1)
      have x1 := Int.emod_lt_of_pos ((c % 2147483497 + 69621 * at_ + 13) * 48271) hmem.1
      generalize (c % 2147483497 + 69621 * at_ + 13) * 48271 % pr = x at x0 x1
      walk_at "go"
      refine g_mulI (.inl ⟨by omega, by omega⟩) ?_
      walk_at "go"
      refine g_mulI (.inl ⟨by decide, by decide⟩) ?_
      walk_at "go"
      refine g_modI (by decide) ?_
      have y0 := Int.emod_nonneg (x * x + 40692 * x + at_) (b := 2147483489) (by decide)
      have y1 := Int.emod_lt_of_pos (x * x + 40692 * x + at_) (b := 2147483489) (by decide)
      generalize (x * x + 40692 * x + at_) % 2147483489 = y at y0 y1
      walk_at "go"
      refine g_mulI (.inl ⟨by omega, by omega⟩) ?_
      walk_at "go"
      refine g_modI (by decide) ?_
      have z0 := Int.emod_nonneg (y * 16807) (b := 2147483477) (by decide)
      have z1 := Int.emod_lt_of_pos (y * 16807) (b := 2147483477) (by decide)
      generalize y * 16807 % 2147483477 = z at z0 z1
      have fin : ∀ u : Int, Q (.int (u / 32 % many)) H4 := fun u =>
        q _ (at_ + 1) rest H4 (mod0 _) (mod1 _) (by omega) h1 (s4 _ _ hp3) ((c1.trans (.same s2)).trans ((Chg.same s3).trans (.same s4)))
      walk_at "go"
      refine g_divI ⟨by decide, by decide⟩ ?_
      walk_at "go"
      exact g_modI hm (fin _)


/-! ### names -/
open SX in
theorem letters_eq : (Str.ofString "abcdefghijklmnopqrstuvwxyz").cps.toList = (List.range 26).map (97 + ·) := by decide +kernel
theorem letter_at {i : Int} (h0 : 0 ≤ i) (h1 : i < 26) : atI (Str.ofString "abcdefghijklmnopqrstuvwxyz").cps.toList i = some (97 + i.toNat) := by
  refine atI_of h0 ?_
  rw [letters_eq, List.getElem?_map, List.getElem?_range (by omega)]
  rfl
theorem letters_len : (Str.ofString "abcdefghijklmnopqrstuvwxyz").length ≤ sizeLine := by
  show (Str.ofString "abcdefghijklmnopqrstuvwxyz").cps.size ≤ _
  rw [← Array.length_toList, letters_eq, List.length_map, List.length_range]
  show 26 ≤ 16777216
  omega
theorem sum_ones : ∀ cs : List Nat, ((cs.map fun c => SX.S [c]).map (·.length)).sum = cs.length
  | [] => rfl
  | c :: cs => by
    rw [List.map_cons, List.map_cons, List.sum_cons, sum_ones cs, SX.S_len, List.length_cons, List.length_cons, List.length_nil]
    omega
/-- the k-th name: the word with another letter at a place -/
def nameK (cs : List Nat) (at_ first by_ k : Nat) : Str := SX.S (cs.take at_ ++ [97 + (first + by_ * k) % 26] ++ cs.drop (at_ + 1))
theorem cutS_to (cs : List Nat) (n : Nat) (h : n ≤ cs.length) : cutS (SX.S cs) none (some (n : Int)) = SX.S (cs.take n) := by
  unfold cutS
  rw [HT.sIx_none, HT.sIx_nat, SX.S_len, Nat.min_eq_left h]
  rfl
theorem cutS_from (cs : List Nat) (n : Nat) (h : n ≤ cs.length) : cutS (SX.S cs) (some (n : Int)) none = SX.S (cs.drop n) := by
  unfold cutS
  rw [HT.sIx_none, HT.sIx_nat, SX.S_len, Nat.min_eq_left h]
  show SX.S ((cs.drop n).take (cs.length - n)) = _
  rw [List.take_of_length_le (by rw [List.length_drop]; omega)]
theorem nameK_is {cs : List Nat} {at_ first by_ k : Nat} (h : at_ < cs.length) (h8 : cs.length ≤ 8) (hc : ∀ c ∈ cs, 97 ≤ c ∧ c < 123) : isName (nameK cs at_ first by_ k) := by
  refine ⟨?_, ?_, ?_⟩
  · rw [nameK, SX.S_len]
    simp only [List.length_append, List.length_take, List.length_drop, List.length_singleton]
    omega
  · rw [nameK, SX.S_len]
    simp only [List.length_append, List.length_take, List.length_drop, List.length_singleton]
    omega
  · intro c hm
    have hm' : c ∈ cs.take at_ ++ [97 + (first + by_ * k) % 26] ++ cs.drop (at_ + 1) := hm
    simp only [List.mem_append, List.mem_singleton] at hm'
    rcases hm' with (hm' | rfl) | hm'
    · exact hc c (List.mem_of_mem_take hm')
    · omega
    · exact hc c (List.mem_of_mem_drop hm')
theorem nameK_inj {cs : List Nat} {at_ first by_ j k : Nat} (h : at_ < cs.length) (hb : by_ ∈ [1, 3, 5, 7, 9, 11]) (hj : j < 26) (hk : k < 26) (e : nameK cs at_ first by_ j = nameK cs at_ first by_ k) : j = k := by
  have e1 := SX.S_inj e
  rw [List.append_assoc, List.append_assoc] at e1
  have e2 := List.append_cancel_left e1
  simp only [List.singleton_append, List.cons.injEq, and_true] at e2
  simp only [List.mem_cons, List.not_mem_nil, or_false] at hb
  rcases hb with rfl | rfl | rfl | rfl | rfl | rfl <;> omega
def spNames : Sp := fun vs H Q _ => ∃ (pen L : Addr) (many : Int), vs = [.ref pen, .int many] ∧ PenAt H pen L ∧ 0 ≤ many ∧ many ≤ 26 ∧
  ∀ (d : Addr) (ss : List Str) (H' : Hp), (ss.length : Int) = many → (∀ s ∈ ss, isName s) → ss.Nodup → H d = none → H' d = some (.lst (ss.map V.str)) → PenAt H' pen L → Chg pen H H' → Q (.ref d) H'
theorem pure_names {K : PySem.W.Frag} {w : World} : PureOk 2 spNames (t_law_names K w spDraw) 8 := by
  refine ⟨fun vs H Q E ⟨pen, L, many, e, _⟩ => by rw [e]; rfl, ?_⟩
  rintro vs H Q E ⟨pen, L, many, rfl, hP, hm0, hm1, q⟩
  show t_law_names K w _ _ [some (.ref pen), some (.int many), none, none, none, none, none, none] H
  unfold t_law_names
  walk_at "go"
  refine g_draw hP (by decide) (by decide) fun n H1 n0 n1 hP1 c1 => ?_
  walk_at "go"
  refine g_isrng (by omega) (by omega) fun D hD => ?_
  refine lc_any (1 + n).toNat (fun i acc H' => ∃ cs : List Nat, acc = (cs.map fun c => SX.S [c]).map V.str ∧ cs.length = i ∧ (∀ c ∈ cs, 97 ≤ c ∧ c < 123) ∧ PenAt H' pen L ∧ Chg pen H1 H') hD
    (fun H' _ s => ⟨[], rfl, rfl, by simp, hP1.same s, .same s⟩) (fun i acc H' hi _ => hi) (fun acc H' _ => Nat.le_refl _) ?_ ?_
  · rintro i x acc H2 _ hi hl ⟨cs, rfl, hc, hcs, hP2, c2⟩ hd2 ⟨rfl, rfl⟩
    walk_at "go"
    refine ⟨rfl, ?_⟩
    walk_at "go"
    refine g_T rfl ?_
    walk_at "go"
    refine g_draw hP2 (by decide) (by decide) fun v H3 v0 v1 hP3 c3 => ?_
    refine g_ixS letters_len (letter_at v0 v1) ?_
    have hn := hP1.ne hD
    refine lc_step (c3 _ _ hn.1.symm hd2) hl (by show _ < 16777216; omega) fun H5 e5 c5 => ?_
    refine ⟨cs ++ [97 + v.toNat], by simp, by simp [hc], ?_, hP3.chg c5 hn.1 hn.2, ?_⟩
    · intro c hm
      rw [List.mem_append, List.mem_singleton] at hm
      rcases hm with hm | rfl
      · exact hcs c hm
      · omega
    · exact fun b o hb e => c5 b o (ne_of_none e hD) (c3 b o hb (c2 b o hb e))
  · rintro acc H2 hd2 ⟨cs, rfl, hc, hcs, hP2, c2⟩
    have hsum := sum_ones cs
    refine ⟨_, D, cs.map fun c => SX.S [c], rfl, rfl, .inl (.of hd2), ?_, ?_⟩
    · rw [hsum, List.length_map]
      show _ + _ * 0 ≤ _
      omega
    have ej : Txt.join (Str.ofString "") (cs.map fun c => SX.S [c]) = SX.S cs := by
      have e0 : Str.ofString "" = SX.S [] := by decide +kernel
      rw [e0, show (cs.map fun c => SX.S [c]) = (cs.map fun c => [c]).map SX.S from by rw [List.map_map]; rfl, SX.join_S]
      congr 1
      have : ∀ l : List Nat, TL.joinL [] (l.map fun c => [c]) = l := by
        intro l
        induction l with
        | nil => rfl
        | cons a l ih =>
          cases l with
          | nil => rfl
          | cons b l =>
            show [a] ++ ([] ++ TL.joinL [] ((b :: l).map fun c => [c])) = _
            rw [ih]
            rfl
      exact this cs
    rw [ej]
    walk_at "go"
    refine g_lenS (by rw [SX.S_len]; show _ ≤ 16777216; omega) ?_
    rw [SX.S_len]
    walk_at "go"
    refine g_draw (many := (cs.length : Int)) hP2 (by omega) (by omega) fun v H3 v0 v1 hP3 c3 => ?_
    walk_at "go"
    refine g_draw hP3 (by decide) (by decide) fun f H4 f0 f1 hP4 c4 => ?_
    walk_at "go"
    intro p H5 np e5 s5
    have hP5 := hP4.same s5
    walk_at "go"
    refine g_draw hP5 (by decide) (by decide) fun y H6 y0 y1 hP6 c6 => ?_
    obtain ⟨by_, hby, hbm⟩ : ∃ by_ : Nat, atI [V.int 1, V.int 3, V.int 5, V.int 7, V.int 9, V.int 11] y = some (.int by_) ∧ by_ ∈ [1, 3, 5, 7, 9, 11] := by
      obtain ⟨v, h1, h2, _⟩ := atI_in (xs := [V.int 1, V.int 3, V.int 5, V.int 7, V.int 9, V.int 11]) y0 y1
      simp only [List.mem_cons, List.not_mem_nil, or_false] at h2
      rcases h2 with rfl | rfl | rfl | rfl | rfl | rfl <;> first | exact ⟨1, h1, by decide⟩ | exact ⟨3, h1, by decide⟩ | exact ⟨5, h1, by decide⟩ | exact ⟨7, h1, by decide⟩ | exact ⟨9, h1, by decide⟩ | exact ⟨11, h1, by decide⟩
    have npen : p ≠ pen := fun e => (hP4.ne np).1 e.symm
    refine g_ixL (.of (c6 _ _ npen e5)) hby ?_
    walk_at "go"
    refine g_isrng (by omega) (by omega) fun D2 hD2 => ?_
    have hn2 := hP6.ne hD2
    have hlen : (SX.S cs).length ≤ sizeLine := by rw [SX.S_len]; show _ ≤ 16777216; omega
    refine lc_any many.toNat (fun i acc H' => acc = ((List.range i).map fun k => nameK cs v.toNat f.toNat by_ k).map V.str ∧ PenAt H' pen L ∧ Chg pen H6 H') hD2
      (fun H' _ s => ⟨rfl, hP6.same s, .same s⟩) (fun i acc H' hi _ => hi) (fun acc H' _ => Nat.le_refl _) ?_ ?_
    · rintro i x acc H7 _ hi hl ⟨rfl, hP7, c7⟩ hd7 ⟨rfl, rfl⟩
      walk_at "go"
      refine ⟨rfl, ?_⟩
      walk_at "go"
      refine g_T rfl ?_
      walk_at "go"
      refine g_slS hlen ?_
      walk_at "go"
      refine g_mulI (.inl ⟨by omega, by simp only [List.mem_cons, List.not_mem_nil, or_false] at hbm; omega⟩) ?_
      walk_at "go"
      refine g_modI (by decide) ?_
      refine g_ixS letters_len (letter_at (Int.emod_nonneg _ (by decide)) (Int.emod_lt_of_pos _ (by decide))) ?_
      refine g_addS (Nat.le_trans (Nat.add_le_add (cutS_length _ _ _) (Nat.le_refl _)) (by rw [SX.S_len]; show cs.length + 1 ≤ 16777216; omega)) ?_
      walk_at "go"
      refine g_slS hlen ?_
      have ek : (cutS (SX.S cs) none (some v) ++ (⟨#[97 + ((f + (by_ : Int) * (0 + (i : Int))) % 26).toNat]⟩ : Str)) ++ cutS (SX.S cs) (some (v + 1)) none = nameK cs v.toNat f.toNat by_ i := by
        have ev : v = (v.toNat : Int) := by omega
        have ev1 : v + 1 = ((v.toNat + 1 : Nat) : Int) := by omega
        rw [ev1, cutS_from _ _ (by omega)]
        rw [show cutS (SX.S cs) none (some v) = SX.S (cs.take v.toNat) from by rw (occs := .pos [1]) [ev]; exact cutS_to _ _ (by omega)]
        have e3 : ((f + (by_ : Int) * (0 + (i : Int))) % 26).toNat = (f.toNat + by_ * i) % 26 := by
          have : f + (by_ : Int) * (0 + (i : Int)) = ((f.toNat + by_ * i : Nat) : Int) := by
            rw [Int.natCast_add, Int.natCast_mul, Int.toNat_of_nonneg f0, Int.zero_add]
          rw [this]
          omega
        rw [e3]
        show SX.S _ ++ SX.S [_] ++ SX.S _ = _
        rw [SX.S_cat, SX.S_cat]
        rfl
      refine g_addS ?_ ?_
      · show (cutS (SX.S cs) none (some v) ++ _ : Str).length + (cutS (SX.S cs) (some (v + 1)) none).length ≤ 16777216
        have l1 := cutS_length (SX.S cs) none (some v)
        have l2 := cutS_length (SX.S cs) (some (v + 1)) none
        have l3 : ∀ a b : Str, (a ++ b).length = a.length + b.length := fun a b => by rw [← SX.S_tl a, ← SX.S_tl b, SX.S_cat, SX.S_len, SX.S_len, SX.S_len, List.length_append]
        have l0 := SX.S_len cs
        rw [l3]
        show _ + 1 + _ ≤ _
        omega
      · rw [ek]
        refine lc_step hd7 hl (by show _ < 16777216; omega) fun H8 e8 c8 => ?_
        exact ⟨by rw [List.range_succ]; simp, hP7.chg c8 hn2.1 hn2.2, fun b o hb e => c8 b o (ne_of_none e hD2) (c7 b o hb e)⟩
    · rintro acc H7 hd7 ⟨rfl, hP7, c7⟩
      have hfree : H D2 = none := by
        cases e : H D2 with
        | none => rfl
        | some o =>
          have : H6 D2 = some o := c6 _ _ hn2.1.symm (s5 _ _ (c4 _ _ hn2.1.symm (c3 _ _ hn2.1.symm (c2 _ _ hn2.1.symm (c1 _ _ hn2.1.symm e)))))
          rw [hD2] at this
          cases this
      refine q D2 _ H7 (by rw [List.length_map, List.length_range]; omega) ?_ ?_ hfree hd7 hP7 (fun b o hb e => c7 b o hb (c6 b o hb (s5 b o (c4 b o hb (c3 b o hb (c2 b o hb (c1 b o hb e)))))))
      · intro s hs
        obtain ⟨k, hk, rfl⟩ := List.mem_map.mp hs
        exact nameK_is (by omega) (by omega) hcs
      · refine List.pairwise_map.mpr (List.Pairwise.imp_of_mem ?_ List.nodup_range)
        intro a b ha hb ne e
        rw [List.mem_range] at ha hb
        exact ne (nameK_inj (by omega) hbm (by omega) (by omega) e)

/-! ### pens, numbers -/
def spPen (K : PySem.W.Frag) : Sp := fun vs H Q _ => ∃ (a : Addr) (ns : List Int), vs = [.ref a] ∧ SqL K H a (ns.map V.int) ∧ ns.length ≤ 63 ∧ ∀ (pen L : Addr) (H' : Hp), H pen = none → H L = none → PenAt H' pen L → Same H H' → Q (.ref pen) H'
theorem pure_pen {K : PySem.W.Frag} {w : World} : PureOk 1 (spPen K) (t_law_pen K w) 1 := by
  refine ⟨fun vs H Q E ⟨a, ns, e, _⟩ => by rw [e]; rfl, ?_⟩
  rintro vs H Q E ⟨a, ns, rfl, hS, hl, q⟩
  show t_law_pen K w _ [some (.ref a)] H
  unfold t_law_pen
  walk_at "go"
  refine g_slL hS fun p1 H1 n1 e1 s1 => ?_
  walk_at "go"
  refine g_listL (.of e1) fun p2 H2 n2 e2 s2 => ?_
  walk_at "go"
  intro p3 H3 n3 e3 s3
  have ec : cutV (ns.map V.int) none (some 63) = ns.map V.int := by
    unfold cutV
    rw [HT.sIx_none, show (63 : Int) = ((63 : Nat) : Int) from rfl, HT.sIx_nat, List.length_map, Nat.min_eq_right hl]
    show (ns.map V.int).take ns.length = _
    rw [List.take_of_length_le (by rw [List.length_map]; exact Nat.le_refl _)]
  rw [ec] at e2
  refine q p3 p2 H3 (s1.free (s2.free n3)) (s1.free n2) ⟨ns, 0, 0, e3, s3 _ _ e2, by decide, by decide, hl⟩ (s1.trans (s2.trans s3))

def spNumber : Sp := fun vs H Q _ => ∃ (pen L : Addr), vs = [.ref pen] ∧ PenAt H pen L ∧ ∀ (n : Int) (H' : Hp), n.natAbs < 10 ^ 60 → PenAt H' pen L → Chg pen H H' → Q (.int n) H'

/-! ### drawing parts: the state -/
/-- what may change while a part is drawn -/
structure Fix (pen left stock b : Addr) : Prop where
  p : b ≠ pen
  l : b ≠ left
  s : b ≠ stock
def Chg3 (pen left stock : Addr) (H H' : Hp) : Prop := ∀ b o, Fix pen left stock b → H b = some o → H' b = some o
structure RoomAt (H : Hp) (pen L left stock : Addr) (n : Int) (st : List Str) : Prop where
  pe : PenAt H pen L
  le : H left = some (.lst [.int n])
  sk : H stock = some (.lst (st.map V.str))
  lp : left ≠ pen
  lL : left ≠ L
  sp : stock ≠ pen
  sL : stock ≠ L
  ls : left ≠ stock
section
variable {H H' H1 : Hp} {pen L left stock b : Addr} {n : Int} {st : List Str}
theorem Chg3.refl : Chg3 pen left stock H H := fun _ _ _ e => e
theorem Chg3.trans (h : Chg3 pen left stock H H1) (h' : Chg3 pen left stock H1 H') : Chg3 pen left stock H H' := fun b o f e => h' b o f (h b o f e)
theorem Chg3.ofp (h : Chg pen H H') : Chg3 pen left stock H H' := fun b o f e => h b o f.p e
theorem Chg3.same (h : Same H H') : Chg3 pen left stock H H' := fun b o _ e => h b o e
theorem RoomAt.new (r : RoomAt H pen L left stock n st) (hb : H b = none) : Fix pen left stock b :=
  ⟨fun e => (by obtain ⟨ns, a, x, hp, _⟩ := r.pe; rw [e, hp] at hb; cases hb), fun e => (by have := r.le; rw [← e, hb] at this; cases this), fun e => (by have := r.sk; rw [← e, hb] at this; cases this)⟩
theorem RoomAt.same (r : RoomAt H pen L left stock n st) (s : Same H H') : RoomAt H' pen L left stock n st :=
  ⟨r.pe.same s, s _ _ r.le, s _ _ r.sk, r.lp, r.lL, r.sp, r.sL, r.ls⟩
theorem RoomAt.draw (r : RoomAt H pen L left stock n st) (h : PenAt H' pen L) (c : Chg pen H H') : RoomAt H' pen L left stock n st :=
  ⟨h, c _ _ r.lp r.le, c _ _ r.sp r.sk, r.lp, r.lL, r.sp, r.sL, r.ls⟩
/-- another object changes -/
theorem RoomAt.chg (r : RoomAt H pen L left stock n st) (c : Chg b H H') (f : Fix pen left stock b) (fL : L ≠ b) : RoomAt H' pen L left stock n st :=
  ⟨r.pe.chg c f.p.symm fL, c _ _ f.l.symm r.le, c _ _ f.s.symm r.sk, r.lp, r.lL, r.sp, r.sL, r.ls⟩
theorem RoomAt.tk {m : Int} {su : List Str} (r : RoomAt H pen L left stock n st) (c : Chg3 pen left stock H H') (r' : RoomAt H' pen L left stock m su) : Tk H H' := fun b xs e => c b _
  ⟨fun z => (by obtain ⟨ns, a, x, hp, _⟩ := r.pe; rw [z, hp] at e; cases e), fun z => (by rw [z, r.le] at e; cases e), fun z => (by rw [z, r.sk] at e; cases e)⟩ e
end
/-- the functions that a part may name, with how many things they want -/
def WorldAt (H : Hp) (world : Addr) (W : List (Str × Nat)) : Prop := ∃ xs, H world = some (.lst xs) ∧ Tps H xs (W.map fun q => .tuple [.str q.1, .int q.2])
def WorldOk (W : List (Str × Nat)) : Prop := W.length ≤ 8 ∧ ∀ q ∈ W, isName q.1 ∧ q.2 ≤ 4
theorem WorldAt.mono {H H' : Hp} {world : Addr} {W : List (Str × Nat)} (h : WorldAt H world W) (k : Tk H H') (c : ∀ o, H world = some o → H' world = some o) : WorldAt H' world W := by
  obtain ⟨xs, e, t⟩ := h
  exact ⟨xs, c _ e, t.mono k⟩
/-- all that a part's drawing leans on -/
structure GenAt (H : Hp) (pen L world scope left stock : Addr) (W : List (Str × Nat)) (sc : List Str) (n : Int) (st : List Str) : Prop where
  r : RoomAt H pen L left stock n st
  w : WorldAt H world W
  gsc : H scope = some (.lst (sc.map V.str))
  fw : Fix pen left stock world
  fs : Fix pen left stock scope
section
variable {H H' H1 : Hp} {pen L world scope left stock b : Addr} {W : List (Str × Nat)} {sc : List Str} {n : Int} {st : List Str}
theorem GenAt.same (g : GenAt H pen L world scope left stock W sc n st) (s : Same H H') : GenAt H' pen L world scope left stock W sc n st :=
  ⟨g.r.same s, g.w.mono (Same.tk s) (fun o e => s _ _ e), s _ _ g.gsc, g.fw, g.fs⟩
/-- behind anything that keeps all but the three -/
theorem GenAt.go {m : Int} {su : List Str} (g : GenAt H pen L world scope left stock W sc n st) (r' : RoomAt H' pen L left stock m su) (c : Chg3 pen left stock H H') : GenAt H' pen L world scope left stock W sc m su :=
  ⟨r', g.w.mono (g.r.tk c r') (fun o e => c _ _ g.fw e), c _ _ g.fs g.gsc, g.fw, g.fs⟩
theorem GenAt.draw (g : GenAt H pen L world scope left stock W sc n st) (h : PenAt H' pen L) (c : Chg pen H H') : GenAt H' pen L world scope left stock W sc n st :=
  g.go (g.r.draw h c) (.ofp c)
end
/-- the names that stand and may come: all unlike, few -/
structure NamesOk (sc st : List Str) : Prop where
  nsc : ∀ x ∈ sc, isName x
  nst : ∀ x ∈ st, isName x
  nd : st.Nodup
  few : sc.length + st.length ≤ 60
/-- what comes of a drawn part -/
structure PartOut (fs sc : List Str) (d : Nat) (n : Int) (st : List Str) (p : Part) (n' : Int) (st' : List Str) : Prop where
  ok : p.ok fs sc
  deep : p.deep ≤ d
  size : (p.size : Int) + n' ≤ 1 + n
  left : 0 ≤ n'
  names : ∃ u, st = st' ++ u ∧ p.rowNames.Nodup ∧ ∀ x ∈ p.rowNames, x ∈ u
/-! ### a leaf -/
theorem canLay_name {x : Str} (h : isName x) : PyData.canLay0 (.str x) = true := by
  rw [PyData.canLay0]
  unfold PyData.strOk
  rw [Array.all_eq_true]
  intro i hi
  have hm : x.cps[i] ∈ x.cps.toList := by simp
  have := h.2.2 _ hm
  exact decide_eq_true (by omega)
theorem shaped_list {ds : List PyData} {k : Nat} (h1 : ∀ d ∈ ds, PyData.canLay0 d = true) (h2 : ∀ d ∈ ds, PyData.depth d ≤ k) (hk : k ≤ 63) : SeqAt.shaped (.list ds) = true := by
  have a1 : ∀ ds : List PyData, (∀ d ∈ ds, PyData.canLay0 d = true) → PyData.canLayAll0 ds = true := by
    intro ds h
    induction ds with
    | nil => rfl
    | cons d ds ih => rw [PyData.canLayAll0, h d (by simp), ih fun e he => h e (by simp [he])]; rfl
  have a2 : ∀ ds : List PyData, (∀ d ∈ ds, PyData.depth d ≤ k) → PyData.depthAll ds ≤ k := by
    intro ds h
    induction ds with
    | nil => rw [PyData.depthAll]; omega
    | cons d ds ih =>
      have i1 := ih fun e he => h e (by simp [he])
      have i2 := h d (by simp)
      rw [PyData.depthAll]
      omega
  have a3 := a2 ds h2
  unfold SeqAt.shaped
  rw [show PyData.canLay0 (.list ds) = true from by rw [PyData.canLay0]; exact a1 ds h1, Bool.true_and, decide_eq_true_eq, PyData.depth]
  omega
theorem shaped_names {ss : List Str} (h : ∀ x ∈ ss, isName x) : SeqAt.shaped (.list (ss.map PyData.str)) = true :=
  shaped_list (k := 0) (fun d hd => by obtain ⟨x, hx, rfl⟩ := List.mem_map.mp hd; exact canLay_name (h x hx)) (fun d hd => by obtain ⟨x, hx, rfl⟩ := List.mem_map.mp hd; rw [PyData.depth]; omega) (by decide)
theorem shaped_nil : SeqAt.shaped (.list []) = true := shaped_names (ss := []) (by simp)
theorem eqv_nil {ds : List PyData} : PyData.eqv (.list ds) (.list []) = ds.isEmpty := by
  cases ds <;> rfl
def spLeaf : Sp := fun vs H Q _ => ∃ (pen L world scope left stock : Addr) (W : List (Str × Nat)) (sc : List Str) (n : Int) (st : List Str) (want : Str), vs = [.ref pen, .ref world, .ref scope, .str want] ∧
  GenAt H pen L world scope left stock W sc n st ∧ WorldOk W ∧ NamesOk sc st ∧ 0 ≤ n ∧
  ∀ (v : V) (p : Part) (H' : Hp), Tp H' v p.data → GenAt H' pen L world scope left stock W sc n st → PartOut (W.map (·.1)) sc 1 n st p n st → Chg3 pen left stock H H' → Q v H'
/-! ### names that are used up -/
def Used (st st' A : List Str) : Prop := ∃ u, st = st' ++ u ∧ A.Nodup ∧ ∀ x ∈ A, x ∈ u
section
variable {st st1 st2 A B : List Str}
theorem Used.refl : Used st st [] := ⟨[], by simp, List.nodup_nil, by simp⟩
theorem Used.app (h : Used st st1 A) (h2 : Used st1 st2 B) (nd : st.Nodup) : Used st st2 (A ++ B) := by
  obtain ⟨u, rfl, n1, s1⟩ := h
  obtain ⟨v, rfl, n2, s2⟩ := h2
  refine ⟨v ++ u, by simp, List.nodup_append.mpr ⟨n1, n2, fun a ha b hb e => ?_⟩, fun x hx => ?_⟩
  · subst e
    have h1 := s1 _ ha
    have h2 := s2 _ hb
    exact (List.nodup_append.mp nd).2.2 a (by simp [h2]) a h1 rfl
  · rcases List.mem_append.mp hx with h | h
    · exact List.mem_append.mpr (.inr (s1 x h))
    · exact List.mem_append.mpr (.inl (s2 x h))
theorem Used.left (h : Used st st1 A) : Used st st1 [] := by
  obtain ⟨u, e, _, _⟩ := h
  exact ⟨u, e, List.nodup_nil, by simp⟩
/-- the later ones are not used -/
theorem Used.fst (h : Used st st1 A) (h2 : Used st1 st2 B) : Used st st2 A := by
  obtain ⟨u, rfl, n1, s1⟩ := h
  obtain ⟨v, rfl, n2, s2⟩ := h2
  exact ⟨v ++ u, by simp, n1, fun x hx => List.mem_append.mpr (.inr (s1 x hx))⟩
theorem Used.snd (h : Used st st1 A) (h2 : Used st1 st2 B) : Used st st2 B := by
  obtain ⟨u, rfl, n1, s1⟩ := h
  obtain ⟨v, rfl, n2, s2⟩ := h2
  exact ⟨v ++ u, by simp, n2, fun x hx => List.mem_append.mpr (.inl (s2 x hx))⟩
theorem Used.len (h : Used st st1 A) : st1.length ≤ st.length := by
  obtain ⟨u, rfl, _, _⟩ := h
  rw [List.length_append]
  omega
theorem NamesOk.go {sc : List Str} (n : NamesOk sc st) (h : Used st st1 A) : NamesOk sc st1 := by
  obtain ⟨u, rfl, _, _⟩ := h
  exact ⟨n.nsc, fun x hx => n.nst x (List.mem_append.mpr (.inl hx)), (List.nodup_append.mp n.nd).1, by have := n.few; rw [List.length_append] at this; omega⟩
end
/-! ### room -/
def RoomL (H : Hp) (room left stock : Addr) (D : Int) : Prop := H room = some (.lst [.int D, .ref left, .ref stock])
def spFits : Sp := fun vs H Q _ => ∃ (pen L room left stock : Addr) (D n many : Int) (st : List Str), vs = [.ref room, .int many] ∧ RoomAt H pen L left stock n st ∧ RoomL H room left stock D ∧
  (n < many → Q (.bl false) H) ∧ (many ≤ n → ∀ H', RoomAt H' pen L left stock (n - many) st → Chg left H H' → Q (.bl true) H')
/-! ### parts, calls, lets: what they lean on, what they tell -/
structure PartPre (H : Hp) (pen L world scope room left stock : Addr) (W : List (Str × Nat)) (sc : List Str) (D n : Int) (st : List Str) (want : Str) : Prop where
  g : GenAt H pen L world scope left stock W sc n st
  w : WorldOk W
  nm : NamesOk sc st
  n0 : 0 ≤ n
  rm : RoomL H room left stock D
  fr : Fix pen left stock room
  d0 : 0 ≤ D
  wt : want ∈ [("number" : Str), "pair", "any"]
def PartPost (H : Hp) (pen L world scope left stock : Addr) (W : List (Str × Nat)) (sc : List Str) (d : Nat) (n : Int) (st : List Str) (Q : VK) : Prop :=
  ∀ (v : V) (p : Part) (n' : Int) (st' : List Str) (H' : Hp), Tp H' v p.data → GenAt H' pen L world scope left stock W sc n' st' → PartOut (W.map (·.1)) sc d n st p n' st' → Chg3 pen left stock H H' → Q v H'
def spPart (m : Nat) : Sp := fun vs H Q _ => ∃ (pen L world scope room left stock : Addr) (W : List (Str × Nat)) (sc : List Str) (D n : Int) (st : List Str) (want : Str), vs = [.ref pen, .ref world, .ref scope, .ref room, .str want] ∧
  PartPre H pen L world scope room left stock W sc D n st want ∧ D.toNat < m ∧ PartPost H pen L world scope left stock W sc (D.toNat + 1) n st Q
/-- a let's, its room one less deep -/
def spLet (m : Nat) : Sp := fun vs H Q _ => ∃ (pen L world scope room left stock : Addr) (W : List (Str × Nat)) (sc : List Str) (D n : Int) (st : List Str) (want : Str), vs = [.ref pen, .ref world, .ref scope, .ref room, .str want] ∧
  PartPre H pen L world scope room left stock W sc D n st want ∧ D.toNat < m ∧ PartPost H pen L world scope left stock W sc (D.toNat + 2) n st Q
def spCallP (m : Nat) : Sp := fun vs H Q _ => ∃ (pen L world scope room left stock : Addr) (W : List (Str × Nat)) (sc : List Str) (D n : Int) (st : List Str) (want : Str), vs = [.ref pen, .ref world, .ref scope, .ref room, .str want] ∧
  PartPre H pen L world scope room left stock W sc D n st want ∧ D.toNat < m ∧ 5 ≤ D ∧ W ≠ [] ∧ PartPost H pen L world scope left stock W sc (D.toNat + 2) n st Q
theorem PartOut.leaf {fs sc : List Str} {d : Nat} {n n1 : Int} {st st' : List Str} {p : Part} (h : PartOut fs sc 1 n st p n1 st') (hd : 1 ≤ d) : PartOut fs sc d n st p n1 st' := ⟨h.ok, Nat.le_trans h.deep hd, h.size, h.left, h.names⟩
section
variable {H H' : Hp} {pen L world scope room left stock : Addr} {W : List (Str × Nat)} {sc : List Str} {D n : Int} {st : List Str} {want : Str}
theorem PartPre.go {n' : Int} {st' A : List Str} (h : PartPre H pen L world scope room left stock W sc D n st want) (g : GenAt H' pen L world scope left stock W sc n' st') (c : Chg3 pen left stock H H') (u : Used st st' A) (h0 : 0 ≤ n') :
    PartPre H' pen L world scope room left stock W sc D n' st' want := ⟨g, h.w, h.nm.go u, h0, c _ _ h.fr h.rm, h.fr, h.d0, h.wt⟩
end

section
variable {H H' : Hp} {pen L world scope left stock d : Addr} {W : List (Str × Nat)} {sc : List Str} {n : Int} {st : List Str}
theorem GenAt.free (g : GenAt H pen L world scope left stock W sc n st) (h : H d = none) : Fix pen left stock d ∧ L ≠ d ∧ world ≠ d ∧ scope ≠ d := by
  obtain ⟨xs, hw, _⟩ := g.w
  obtain ⟨ns, a, r, hp, hL, _⟩ := g.r.pe
  exact ⟨g.r.new h, ne_of_none hL h, ne_of_none hw h, ne_of_none g.gsc h⟩
end

/-! ### a part by its word -/
def kinds7 : List Str := ["op", "when", "side", "let", "call", "leaf", "pair"]
def words0 : List (Key × V) := mergeK [] [(.inr "number", .str "op op op op op op when when side let call call call call leaf leaf")]
def words1 : List (Key × V) := putK words0 (.inr "pair") (.str "pair pair pair pair when when side side let let call call call op leaf pair")
def words2 : List (Key × V) := putK words1 (.inr "any") (.str "op op pair pair pair when when side side let let call call call leaf leaf")
def wordsOf (x : Str) : Str := match valV words2 (Sum.inr x) with
  | some (.str s) => s
  | _ => ""
def kv4 : List (Key × V) := [(.inr "side", .int 1), (.inr "pair", .int 2), (.inr "when", .int 3), (.inr "op", .int 2)]

/-! ### a loop -/
theorem Part.size_pos : ∀ p : Part, 1 ≤ p.size
  | .num _ => Nat.le_refl _
  | .name _ => Nat.le_refl _
  | .fn _ => Nat.le_refl _
  | .one _ _ => Nat.le_add_right _ _
  | .two _ _ _ => Nat.le_add_right _ _
  | .whn _ _ _ => Nat.le_add_right _ _
  | .letp _ _ => Nat.le_add_right _ _
  | .shut _ => Nat.le_refl _
theorem cut_from {ss : List Str} (k : Nat) (h : k ≤ ss.length) : cutV (ss.map V.str) (some (k : Int)) none = (ss.drop k).map V.str := by
  unfold cutV
  rw [HT.sIx_none, HT.sIx_nat, List.length_map, Nat.min_eq_left h, ← List.map_drop, List.take_of_length_le (by rw [List.length_map, List.length_drop]; exact Nat.le_refl _)]
theorem cut_to {ss : List Str} (k : Nat) : cutV (ss.map V.str) none (some (k : Int)) = (ss.take k).map V.str := by
  unfold cutV
  rw [HT.sIx_none, HT.sIx_nat, List.length_map, Nat.sub_zero, List.drop_zero, ← List.map_take]
  by_cases h : k ≤ ss.length
  · rw [Nat.min_eq_left h]
  · rw [Nat.min_eq_right (by omega), List.take_of_length_le (Nat.le_refl _), List.take_of_length_le (by omega)]
structure LoopPre (H : Hp) (pen L world scope room left stock : Addr) (W : List (Str × Nat)) (me : Str) (sc : List Str) (n : Int) (st : List Str) : Prop where
  g : GenAt H pen L world scope left stock W sc n st
  w : WorldOk W
  nm : NamesOk sc st
  n0 : 0 ≤ n
  rm : ∃ D : Int, H room = some (.lst [.int D, .ref left, .ref stock])
  fr : Fix pen left stock room
  me : me ∈ W.map (·.1)
  sc0 : sc ≠ []
  sc4 : sc.length ≤ 4
def spLoop : Sp := fun vs H Q _ => ∃ (pen L world scope room left stock : Addr) (W : List (Str × Nat)) (me : Str) (sc : List Str) (n : Int) (st : List Str), vs = [.ref pen, .ref world, .str me, .ref scope, .ref room] ∧
  LoopPre H pen L world scope room left stock W me sc n st ∧
  ∀ (v : V) (p : Part) (n' : Int) (st' : List Str) (H' : Hp), Tp H' v p.data → GenAt H' pen L world scope left stock W sc n' st' → p.ok (W.map (·.1)) sc → p.deep ≤ 8 → (p.size : Int) + n' ≤ 16 + n → 0 ≤ n' → Used st st' p.rowNames → Chg3 pen left stock H H' → Q v H'

/-! ### a body -/
structure BodyAt (H : Hp) (pen L world scope stock : Addr) (W : List (Str × Nat)) (sc st : List Str) : Prop where
  pe : PenAt H pen L
  w : WorldAt H world W
  gsc : H scope = some (.lst (sc.map V.str))
  sk : H stock = some (.lst (st.map V.str))
  wp : world ≠ pen
  ws : world ≠ stock
  cp : scope ≠ pen
  cs : scope ≠ stock
  sp : stock ≠ pen
  sL : stock ≠ L
structure BodyOk (W : List (Str × Nat)) (me : Str) (sc st : List Str) : Prop where
  w : WorldOk W
  nm : NamesOk sc st
  me : me = "" ∨ me ∈ W.map (·.1)
  sc4 : sc.length ≤ 4
/-- all but the pen and the stock stay -/
def Chg2 (pen stock : Addr) (H H' : Hp) : Prop := ∀ b o, b ≠ pen → b ≠ stock → H b = some o → H' b = some o
section
variable {H H' H1 H2 : Hp} {pen L world scope stock l rm : Addr} {W : List (Str × Nat)} {me : Str} {sc st : List Str} {n D : Int}
theorem BodyAt.same (h : BodyAt H pen L world scope stock W sc st) (s : Same H H') : BodyAt H' pen L world scope stock W sc st :=
  ⟨h.pe.same s, h.w.mono (Same.tk s) (fun o e => s _ _ e), s _ _ h.gsc, s _ _ h.sk, h.wp, h.ws, h.cp, h.cs, h.sp, h.sL⟩
theorem PenAt.tk (h : PenAt H pen L) (c : Chg pen H H') : Tk H H' := by
  obtain ⟨ns, a, r, hp, _⟩ := h
  exact c.tkl hp
theorem BodyAt.draw (h : BodyAt H pen L world scope stock W sc st) (p : PenAt H' pen L) (c : Chg pen H H') : BodyAt H' pen L world scope stock W sc st :=
  ⟨p, h.w.mono (h.pe.tk c) (fun o e => c _ _ h.wp e), c _ _ h.cp h.gsc, c _ _ h.sp h.sk, h.wp, h.ws, h.cp, h.cs, h.sp, h.sL⟩
end
def spBody : Sp := fun vs H Q _ => ∃ (pen L world scope stock : Addr) (W : List (Str × Nat)) (me : Str) (sc st : List Str), vs = [.ref pen, .ref world, .str me, .ref scope, .ref stock] ∧ BodyAt H pen L world scope stock W sc st ∧ BodyOk W me sc st ∧
  ∀ (v : V) (p : Part) (H' : Hp), Tp H' v p.data → PenAt H' pen L → p.ok (W.map (·.1)) sc → p.deep ≤ 12 → p.size ≤ 60 → p.rowNames.Nodup → (∀ x ∈ p.rowNames, x ∈ st) → Chg2 pen stock H H' → Q v H'

/-! ### a program -/
section
variable {K : PySem.W.Frag} {σ : L2.St} {H : Hp} {Q : L2.St → Hp → Prop} {a : Addr} {x y z : V} {i j k : Nat}
theorem g_un2 (h : H a = some (.tup [x, y])) (q : Q ((σ.set i (some x)).set j (some y)) H) : gTup K 2 (gCons (gName i) (gCons (gName j) gNil)) (.ref a) σ H Q :=
  ⟨a, _, rfl, .of h, rfl, x, _, rfl, y, _, rfl, rfl, q⟩
theorem g_un3 (h : H a = some (.tup [x, y, z])) (q : Q (((σ.set i (some x)).set j (some y)).set k (some z)) H) : gTup K 3 (gCons (gName i) (gCons (gName j) (gCons (gName k) gNil))) (.ref a) σ H Q :=
  ⟨a, _, rfl, .of h, rfl, x, _, rfl, y, _, rfl, z, _, rfl, rfl, q⟩
theorem Tp.tup_inv {v : V} {ds : List PyData} (h : Tp H v (.tuple ds)) : ∃ a xs, v = .ref a ∧ H a = some (.tup xs) ∧ Tps H xs ds := by
  cases h with
  | tup e r => exact ⟨_, _, rfl, e, r⟩
theorem Tps.cons_inv {vs : List V} {d : PyData} {ds : List PyData} (h : Tps H vs (d :: ds)) : ∃ v us, vs = v :: us ∧ Tp H v d ∧ Tps H us ds := by
  cases h with
  | cons a b => exact ⟨_, _, rfl, a, b⟩
theorem Tps.nil_inv {vs : List V} (h : Tps H vs []) : vs = [] := by
  cases h
  rfl
theorem Tp.str_inv {v : V} {s : Str} (h : Tp H v (.str s)) : v = .str s := by
  cases h
  rfl
theorem Tp.int_inv {v : V} {n : Int} (h : Tp H v (.int n)) : v = .int n := by
  cases h
  rfl
/-- a tuple of two -/
theorem Tp.two {v : V} {d e : PyData} (h : Tp H v (.tuple [d, e])) : ∃ a x y, v = .ref a ∧ H a = some (.tup [x, y]) ∧ Tp H x d ∧ Tp H y e := by
  obtain ⟨a, xs, rfl, h1, h2⟩ := h.tup_inv
  obtain ⟨x, us, rfl, tx, h3⟩ := h2.cons_inv
  obtain ⟨y, us, rfl, ty, h4⟩ := h3.cons_inv
  rw [h4.nil_inv] at h1
  exact ⟨a, x, y, rfl, h1, tx, ty⟩
theorem Tp.three {v : V} {d e f : PyData} (h : Tp H v (.tuple [d, e, f])) : ∃ a x y z, v = .ref a ∧ H a = some (.tup [x, y, z]) ∧ Tp H x d ∧ Tp H y e ∧ Tp H z f := by
  obtain ⟨a, xs, rfl, h1, h2⟩ := h.tup_inv
  obtain ⟨x, us, rfl, tx, h3⟩ := h2.cons_inv
  obtain ⟨y, us, rfl, ty, h4⟩ := h3.cons_inv
  obtain ⟨z, us, rfl, tz, h5⟩ := h4.cons_inv
  rw [h5.nil_inv] at h1
  exact ⟨a, x, y, z, rfl, h1, tx, ty, tz⟩
end
structure Fn1 where
  name : Str
  things : List Str
  body : Part
def Fn1.data (f : Fn1) : PyData := .tuple [.str f.name, .tuple (f.things.map .str), f.body.data]
structure Prog where
  fs : List Fn1
  asked : Part
def Prog.data (P : Prog) : PyData := .tuple [.tuple (P.fs.map Fn1.data), P.asked.data]
def Prog.names (P : Prog) : List Str := P.fs.map (·.name)
structure Part.fine (fs sc : List Str) (p : Part) : Prop where
  ok : p.ok fs sc
  deep : p.deep ≤ 12
  size : p.size ≤ 60
  nd : p.rowNames.Nodup
  un : ∀ x ∈ p.rowNames, isName x ∧ x ∉ sc
structure Fn1.fine (fs : List Str) (f : Fn1) : Prop where
  nm : isName f.name
  few : f.things.length ≤ 4
  nd : f.things.Nodup
  th : ∀ x ∈ f.things, isName x
  body : f.body.fine fs f.things
structure Prog.fine (P : Prog) : Prop where
  few : P.fs.length ≤ 8
  nd : P.names.Nodup
  fs : ∀ f ∈ P.fs, f.fine P.names
  asked : P.asked.fine P.names []
def spProgram : Sp := fun vs H Q _ => ∃ (pen L : Addr), vs = [.ref pen] ∧ PenAt H pen L ∧
  ∀ (v : V) (P : Prog) (H' : Hp), Tp H' v P.data → P.fine → PenAt H' pen L → Chg pen H H' → Q v H'
theorem spNames_mk {pen L : Addr} {many : Int} {H : Hp} {Q : VK} {E : XK} (h : PenAt H pen L) (h0 : 0 ≤ many) (h1 : many ≤ 26)
    (q : ∀ (d : Addr) (ss : List Str) (H' : Hp), (ss.length : Int) = many → (∀ s ∈ ss, isName s) → ss.Nodup → H d = none → H' d = some (.lst (ss.map V.str)) → PenAt H' pen L → Chg pen H H' → Q (.ref d) H') : spNames ([.ref pen, .int many] ++ []) H Q E :=
  ⟨pen, L, many, rfl, h, h0, h1, q⟩
/-! ### parts within parts -/
section
variable {K : PySem.W.Frag} {w : World} {σ : L2.St} {H : Hp} {Q : VK} {D : Ends} {c : TT} {tb : TS} {d : Addr} {z : Str} {kvs : List (Str × V)}
theorem while_any (Pv : Nat → L2.St → Hp → Prop) (m : Nat) (h0 : Pv m σ H)
    (hs : ∀ m σ H, Pv m σ H → c σ H fun b H1 => if b = true then ∃ N : L2.St → Hp → Prop, (∀ σ' H', N σ' H' → ∃ m', m' < m ∧ Pv m' σ' H') ∧ tb { D with nx := N, ct := N, bk := D.nx } σ H1 else D.nx σ H1) : tWhile c tb D σ H :=
  ⟨Pv, ⟨m, h0⟩, hs⟩
/-- a turn of a while -/
theorem g_turn {Pv : Nat → L2.St → Hp → Prop} {m : Nat} (h : tb { D with nx := fun σ' H' => ∃ m', m' < m ∧ Pv m' σ' H', ct := fun σ' H' => ∃ m', m' < m ∧ Pv m' σ' H', bk := D.nx } σ H) :
    ∃ N : L2.St → Hp → Prop, (∀ σ' H', N σ' H' → ∃ m', m' < m ∧ Pv m' σ' H') ∧ tb { D with nx := N, ct := N, bk := D.nx } σ H := ⟨_, fun _ _ h => h, h⟩
theorem g_inK (T : KTab K w d kvs) {r : Bool} (e : (kvs.find? fun q => decide (q.1 = z)).isSome = r) (q : Q (.bl r) H) : rInG K w false (.str z) (.ref d) H Q :=
  .inr (.inr (.inr ⟨z, d, _, rfl, rfl, T z, by subst e; simpa using q⟩))
theorem Tps.snoc_inv : ∀ {ds : List PyData} {e : PyData} {us : List V}, Tps H us (ds ++ [e]) → ∃ vs v, us = vs ++ [v] ∧ Tps H vs ds ∧ Tp H v e
  | [], e, us, h => by
    obtain ⟨v, r, rfl, tv, tr⟩ := h.cons_inv
    rw [tr.nil_inv]
    exact ⟨[], v, rfl, .nil, tv⟩
  | d :: ds, e, us, h => by
    obtain ⟨v, r, rfl, tv, tr⟩ := Tps.cons_inv (ds := ds ++ [e]) h
    obtain ⟨vs, x, rfl, t1, t2⟩ := Tps.snoc_inv tr
    exact ⟨v :: vs, x, rfl, .cons tv t1, t2⟩
/-- the list at l is unlike nothing, or like -/
theorem g_neLL {a b : Addr} {xs ys : List V} {ds es : List PyData} (ha : H a = some (.lst xs)) (hb : H b = some (.lst ys)) (ta : Tps H xs ds) (tb : Tps H ys es) (sa : SeqAt.shaped (.list ds) = true) (sb : SeqAt.shaped (.list es) = true)
    (q : Q (.bl (!PyData.eqv (.list ds) (.list es))) H) : rNeG K (.ref a) (.ref b) H Q := g_neD (.lst (.of ha) (Tps.dp ta)) (.lst (.of hb) (Tps.dp tb)) sa sb q
end
mutual
/-- all parts of a part, each ahead of what it holds -/
def Part.all : Part → List Part
  | .num n => [.num n]
  | .name x => [.name x]
  | .fn f => [.fn f]
  | .one k a => .one k a :: a.all
  | .two k a b => .two k a b :: (a.all ++ b.all)
  | .whn a b c => .whn a b c :: (a.all ++ (b.all ++ c.all))
  | .letp r a => .letp r a :: (r.all ++ a.all)
  | .shut a => [.shut a]
def Rows.all : Rows → List Part
  | .nil => []
  | .cons _ a r => a.all ++ r.all
end
theorem Rows.all_flat : ∀ r : Rows, r.all = r.parts.flatMap Part.all
  | .nil => rfl
  | .cons x a r => by
    show a.all ++ r.all = (a :: r.parts).flatMap Part.all
    rw [List.flatMap_cons, ← Rows.all_flat r]
theorem Part.all_kids (p : Part) : p.all = p :: p.kids.flatMap Part.all := by
  cases p with
  | letp r a =>
    show _ :: (r.all ++ a.all) = _ :: (r.parts ++ [a]).flatMap Part.all
    rw [Rows.all_flat, List.flatMap_append]
    simp
  | _ => simp [Part.all, Part.kids]
/-- sums, greatest depths -/
def sz : List Part → Nat
  | [] => 0
  | p :: r => p.size + sz r
def mxd : List Part → Nat
  | [] => 0
  | p :: r => max p.deep (mxd r)
theorem sz_app : ∀ a b : List Part, sz (a ++ b) = sz a + sz b
  | [], b => by show sz b = 0 + sz b; omega
  | p :: a, b => by
    show p.size + sz (a ++ b) = p.size + sz a + sz b
    rw [sz_app a b]
    omega
theorem mxd_app : ∀ a b : List Part, mxd (a ++ b) = max (mxd a) (mxd b)
  | [], b => by show mxd b = max 0 (mxd b); omega
  | p :: a, b => by
    show max p.deep (mxd (a ++ b)) = max (max p.deep (mxd a)) (mxd b)
    rw [mxd_app a b]
    omega
theorem sz_len : ∀ a : List Part, a.length ≤ sz a
  | [] => Nat.le_refl _
  | p :: a => by
    have := sz_len a
    have := p.size_pos
    show a.length + 1 ≤ p.size + sz a
    omega
theorem Rows.sz : ∀ r : Rows, r.size = Lz.sz r.parts
  | .nil => rfl
  | .cons x a r => by
    show a.size + r.size = a.size + Lz.sz r.parts
    rw [Rows.sz r]
theorem Rows.mxd : ∀ r : Rows, r.deep = Lz.mxd r.parts
  | .nil => rfl
  | .cons x a r => by
    show max a.deep r.deep = max a.deep (Lz.mxd r.parts)
    rw [Rows.mxd r]
theorem Part.sz_kids (p : Part) : p.size = 1 + sz p.kids := by
  cases p with
  | letp r a =>
    show 1 + (r.size + a.size) = 1 + sz (r.parts ++ [a])
    rw [sz_app, Rows.sz]
    rfl
  | _ => rfl
theorem Part.mxd_kids (p : Part) : p.deep = 1 + mxd p.kids := by
  cases p with
  | letp r a =>
    show 1 + max r.deep a.deep = 1 + mxd (r.parts ++ [a])
    rw [mxd_app, Rows.mxd]
    show _ = 1 + max _ (max a.deep 0)
    omega
  | one k a => show 1 + a.deep = 1 + max a.deep 0; omega
  | two k a b => show 1 + max a.deep b.deep = 1 + max a.deep (max b.deep 0); omega
  | whn a b c => show 1 + max a.deep (max b.deep c.deep) = 1 + max a.deep (max b.deep (max c.deep 0)); omega
  | _ => rfl
theorem mxd_mem {q : Part} : ∀ {a : List Part}, q ∈ a → q.deep ≤ mxd a
  | p :: a, h => by
    show q.deep ≤ max p.deep (mxd a)
    rcases List.mem_cons.mp h with rfl | h
    · omega
    · have := mxd_mem h
      omega
theorem mxd_le {n : Nat} : ∀ {a : List Part}, (∀ q ∈ a, q.deep ≤ n) → mxd a ≤ n
  | [], _ => Nat.zero_le _
  | p :: a, h => by
    have h1 := h p (by simp)
    have h2 := mxd_le fun q hq => h q (List.mem_cons_of_mem _ hq)
    show max p.deep (mxd a) ≤ n
    omega
/-! what stands in a program -/
def Part.good (p : Part) : Prop := (∃ fs sc, p.ok fs sc) ∧ p.deep ≤ 12
theorem Rows.ok_parts {fs sc : List Str} : ∀ {r : Rows}, r.ok fs sc → ∀ q ∈ r.parts, q.ok fs sc
  | .cons x a r, h, q, hq => by
    rcases List.mem_cons.mp hq with rfl | hq
    · exact h.1
    · exact Rows.ok_parts h.2 q hq
theorem Part.ok_kids {fs sc : List Str} {p : Part} (h : p.ok fs sc) : ∃ sc', ∀ q ∈ p.kids, q.ok fs sc' := by
  cases p with
  | num n => exact ⟨sc, by simp [Part.kids]⟩
  | name x => exact ⟨sc, by simp [Part.kids]⟩
  | fn f => exact ⟨sc, by simp [Part.kids]⟩
  | one k a => exact ⟨sc, fun q hq => by rw [List.mem_singleton.mp hq]; exact h⟩
  | two k a b =>
    refine ⟨sc, fun q hq => ?_⟩
    simp only [Part.kids, List.mem_cons, List.not_mem_nil, or_false] at hq
    rcases hq with rfl | rfl
    · exact h.1
    · exact h.2
  | whn a b c =>
    refine ⟨sc, fun q hq => ?_⟩
    simp only [Part.kids, List.mem_cons, List.not_mem_nil, or_false] at hq
    rcases hq with rfl | rfl | rfl
    · exact h.1
    · exact h.2.1
    · exact h.2.2
  | letp r a =>
    obtain ⟨_, _, _, h1, h2⟩ := h
    refine ⟨sc ++ r.names, fun q hq => ?_⟩
    rcases List.mem_append.mp hq with hq | hq
    · exact Rows.ok_parts h1 q hq
    · rw [List.mem_singleton.mp hq]
      exact h2
  | shut a => exact h.elim
theorem Part.good.kids {p : Part} (h : p.good) : ∀ q ∈ p.kids, q.good := by
  obtain ⟨⟨fs, sc, h1⟩, h2⟩ := h
  obtain ⟨sc', h3⟩ := Part.ok_kids h1
  have h4 := p.mxd_kids
  exact fun q hq => ⟨⟨fs, sc', h3 q hq⟩, by have := mxd_mem hq; omega⟩
theorem lay_word1 : ∀ k : K1, PyData.strOk k.word = true := by intro k; cases k <;> decide +kernel
theorem lay_word2 : ∀ k : K2, PyData.strOk k.word = true := by intro k; cases k <;> decide +kernel
mutual
theorem Part.lay {fs : List Str} : ∀ {p : Part} {sc : List Str}, p.ok fs sc → PyData.canLay0 p.data = true ∧ PyData.depth p.data ≤ 3 * p.deep
  | .num n, sc, h => by simp [Part.data, PyData.canLay0, PyData.canLayAll0, PyData.depth, PyData.depthAll, Part.deep]; decide +kernel
  | .name x, sc, h => by
    have := canLay_name h.2
    rw [PyData.canLay0] at this
    simp [Part.data, PyData.canLay0, PyData.canLayAll0, PyData.depth, PyData.depthAll, Part.deep, this]; decide +kernel
  | .fn x, sc, h => by
    have := canLay_name h.2
    rw [PyData.canLay0] at this
    simp [Part.data, PyData.canLay0, PyData.canLayAll0, PyData.depth, PyData.depthAll, Part.deep, this]; decide +kernel
  | .one k a, sc, h => by
    obtain ⟨h1, h2⟩ := Part.lay (p := a) h
    have hw := lay_word1 k
    simp only [Part.data, PyData.canLay0, PyData.canLayAll0, PyData.depth, PyData.depthAll, Part.deep, h1, hw, Bool.and_true, Bool.true_and]
    exact ⟨trivial, by omega⟩
  | .two k a b, sc, h => by
    obtain ⟨h1, h2⟩ := Part.lay (p := a) h.1
    obtain ⟨h3, h4⟩ := Part.lay (p := b) h.2
    have hw := lay_word2 k
    simp only [Part.data, PyData.canLay0, PyData.canLayAll0, PyData.depth, PyData.depthAll, Part.deep, h1, h3, hw, Bool.and_true, Bool.true_and]
    exact ⟨trivial, by omega⟩
  | .whn a b c, sc, h => by
    obtain ⟨h1, h2⟩ := Part.lay (p := a) h.1
    obtain ⟨h3, h4⟩ := Part.lay (p := b) h.2.1
    obtain ⟨h5, h6⟩ := Part.lay (p := c) h.2.2
    have hw : PyData.strOk "when" = true := by decide +kernel
    simp only [Part.data, PyData.canLay0, PyData.canLayAll0, PyData.depth, PyData.depthAll, Part.deep, h1, h3, h5, hw, Bool.and_true, Bool.true_and]
    exact ⟨trivial, by omega⟩
  | .letp r a, sc, h => by
    obtain ⟨h1, h2⟩ := Part.lay (p := a) h.2.2.2.2
    obtain ⟨h3, h4⟩ := Rows.lay (r := r) h.2.2.2.1 h.2.2.1
    have hw : PyData.strOk "let" = true := by decide +kernel
    simp only [Part.data, PyData.canLay0, PyData.canLayAll0, PyData.depth, PyData.depthAll, Part.deep, h1, h3, hw, Bool.and_true, Bool.true_and]
    exact ⟨trivial, by omega⟩
  | .shut a, sc, h => h.elim
theorem Rows.lay {fs : List Str} : ∀ {r : Rows} {sc : List Str}, r.ok fs sc → (∀ x ∈ r.names, isName x) → PyData.canLayAll0 r.datas = true ∧ PyData.depthAll r.datas ≤ 3 * r.deep + 1
  | .nil, sc, h, _ => by simp [Rows.datas, PyData.canLayAll0, PyData.depthAll]
  | .cons x a r, sc, h, hn => by
    obtain ⟨h1, h2⟩ := Part.lay (p := a) h.1
    obtain ⟨h3, h4⟩ := Rows.lay (r := r) h.2 fun y hy => hn y (List.mem_cons_of_mem _ hy)
    have hw := canLay_name (hn x (by show x ∈ x :: r.names; simp))
    rw [PyData.canLay0] at hw
    simp only [Rows.datas, PyData.canLay0, PyData.canLayAll0, PyData.depth, PyData.depthAll, Rows.deep, h1, h3, hw, Bool.and_true, Bool.true_and]
    exact ⟨trivial, by omega⟩
end
theorem Part.good.lay {p : Part} (h : p.good) : PyData.canLay0 p.data = true ∧ PyData.depth p.data ≤ 36 := by
  obtain ⟨⟨fs, sc, h1⟩, h2⟩ := h
  have := Part.lay h1
  exact ⟨this.1, by omega⟩
theorem shaped_parts {ps : List Part} (h : ∀ p ∈ ps, p.good) : SeqAt.shaped (.list (ps.map Part.data)) = true :=
  shaped_list (k := 36) (fun d hd => by obtain ⟨p, hp, rfl⟩ := List.mem_map.mp hd; exact (h p hp).lay.1) (fun d hd => by obtain ⟨p, hp, rfl⟩ := List.mem_map.mp hd; exact (h p hp).lay.2) (by decide)
/-- the rows' values -/
theorem Rows.get : ∀ {r : Rows} {i : Nat} {d : PyData}, r.datas[i]? = some d → ∃ x p, r.names[i]? = some x ∧ r.parts[i]? = some p ∧ d = .tuple [.str x, p.data]
  | .nil, i, d, h => by simp [Rows.datas] at h
  | .cons x a r, 0, d, h => by
    have h1 : some (PyData.tuple [.str x, a.data]) = some d := h
    cases h1
    exact ⟨x, a, rfl, rfl, rfl⟩
  | .cons x a r, i + 1, d, h => Rows.get (r := r) h
theorem Rows.len : ∀ r : Rows, r.datas.length = r.parts.length
  | .nil => rfl
  | .cons x a r => congrArg (· + 1) (Rows.len r)
def spKids : Sp := fun vs H Q _ => ∃ (v : V) (p : Part), vs = [v] ∧ Tp H v p.data ∧ p.good ∧ p.size ≤ 60 ∧ ∀ (l : Addr) (us : List V) (H' : Hp), H l = none → H' l = some (.lst us) → Tps H' us (p.kids.map Part.data) → Same H H' → Q (.ref l) H'
theorem not_whole {n d : Nat} {o : Option Int} (h : 1 ≤ n) : ¬ (HT.sIx n 0 (some 1) = 0 ∧ HT.sIx n d o = n) := by
  rintro ⟨h1, _⟩
  rw [show (1 : Int) = ((1 : Nat) : Int) from rfl, HT.sIx_nat] at h1
  omega
def PARTSkvs : List (Str × V) := [("give", .int 2), ("plus", .int 2), ("less", .int 2), ("times", .int 2), ("below", .int 2), ("when", .int 3), ("pair", .int 2), ("left", .int 1), ("right", .int 1)]

/-! ### sums -/
def allGood (ps : List Part) : Prop := ∀ p ∈ ps, p.good
theorem sz_mem {q : Part} : ∀ {a : List Part}, q ∈ a → q.size ≤ sz a
  | p :: a, h => by
    show q.size ≤ p.size + sz a
    rcases List.mem_cons.mp h with rfl | h
    · omega
    · have := sz_mem h
      omega
theorem sz_rev : ∀ a : List Part, sz a.reverse = sz a
  | [] => rfl
  | p :: a => by
    rw [List.reverse_cons, sz_app, sz_rev a]
    show sz a + (p.size + 0) = p.size + sz a
    omega
/-! ### how deep -/
def dsz : List (Part × Nat) → Nat
  | [] => 0
  | (p, _) :: r => p.size + dsz r
def dmx : List (Part × Nat) → Nat
  | [] => 0
  | (p, d) :: r => max (d + p.deep) (dmx r)
theorem dsz_app : ∀ a b : List (Part × Nat), dsz (a ++ b) = dsz a + dsz b
  | [], b => by show dsz b = 0 + dsz b; omega
  | (p, d) :: a, b => by
    show p.size + dsz (a ++ b) = p.size + dsz a + dsz b
    rw [dsz_app a b]
    omega
theorem dsz_map (d : Nat) : ∀ a : List Part, dsz (a.map fun p => (p, d)) = sz a
  | [] => rfl
  | p :: a => by
    show p.size + dsz _ = p.size + sz a
    rw [dsz_map d a]
def pd (q : Part × Nat) : PyData := .tuple [q.1.data, .int q.2]
/-! ### kids -/
theorem pure_within {K : PySem.W.Frag} {w : World} (T : KTab K w (He.ga K "PARTS") PARTSkvs) : PureOk 1 spKids (t_within K w) 3 := by
  refine ⟨fun vs H Q E ⟨_, _, e, _⟩ => by rw [e]; rfl, ?_⟩
  rintro vs H Q E ⟨v, p, rfl, t, hg, hz, q⟩
  show t_within K w _ [some v, none, none] H
  unfold t_within
  walk_at "go"
  have leaf : ∀ {x : Str} {y : V} {a : Addr} {Q' : VK}, H a = some (.tup [.str x, y]) → Q' (.str x) H → rIxG K w (.ref a) (.int 0) H Q' := fun e q => g_ixT (.of e) (atI_of (by decide) rfl) q
  cases p with
  | shut a => exact hg.1.elim fun _ h => h.elim fun _ h => h.elim
  | num n =>
    obtain ⟨a, x, y, rfl, ea, t1, t2⟩ := t.two
    rw [t1.str_inv] at ea
    refine g_ixT (.of ea) (atI_of (by decide) rfl) (g_inK T (r := false) (by decide +kernel) ?_)
    walk_at "go"
    refine g_F rfl ?_
    walk_at "go"
    refine g_ixT (.of ea) (atI_of (by decide) rfl) ?_
    walk_at "go"
    refine g_F (by decide +kernel) ?_
    walk_at "go"
    intro l H1 nl el s1
    exact q l [] H1 nl el .nil s1
  | name n =>
    obtain ⟨a, x, y, rfl, ea, t1, t2⟩ := t.two
    rw [t1.str_inv] at ea
    refine g_ixT (.of ea) (atI_of (by decide) rfl) (g_inK T (r := false) (by decide +kernel) ?_)
    walk_at "go"
    refine g_F rfl ?_
    walk_at "go"
    refine g_ixT (.of ea) (atI_of (by decide) rfl) ?_
    walk_at "go"
    refine g_F (by decide +kernel) ?_
    walk_at "go"
    intro l H1 nl el s1
    exact q l [] H1 nl el .nil s1
  | fn n =>
    obtain ⟨a, x, y, rfl, ea, t1, t2⟩ := t.two
    rw [t1.str_inv] at ea
    refine g_ixT (.of ea) (atI_of (by decide) rfl) (g_inK T (r := false) (by decide +kernel) ?_)
    walk_at "go"
    refine g_F rfl ?_
    walk_at "go"
    refine g_ixT (.of ea) (atI_of (by decide) rfl) ?_
    walk_at "go"
    refine g_F (by decide +kernel) ?_
    walk_at "go"
    intro l H1 nl el s1
    exact q l [] H1 nl el .nil s1
  | one k b =>
    obtain ⟨a, x, y, rfl, ea, t1, t2⟩ := t.two
    rw [t1.str_inv] at ea
    refine g_ixT (.of ea) (atI_of (by decide) rfl) (g_inK T (r := true) (by cases k <;> decide +kernel) ?_)
    walk_at "go"
    refine g_T rfl ?_
    walk_at "go"
    refine g_slT (.of ea) (not_whole (by simp)) fun p1 H1 n1 e1 s1 => ?_
    walk_at "go"
    refine g_listT (.of e1) fun l H2 nl el s2 => ?_
    exact q l _ H2 (s1.free nl) el (.cons ((t2.mono (Same.tk s1)).mono (Same.tk s2)) .nil) (s1.trans s2)
  | two k b c =>
    obtain ⟨a, x, y, z, rfl, ea, t1, t2, t3⟩ := t.three
    rw [t1.str_inv] at ea
    refine g_ixT (.of ea) (atI_of (by decide) rfl) (g_inK T (r := true) (by cases k <;> decide +kernel) ?_)
    walk_at "go"
    refine g_T rfl ?_
    walk_at "go"
    refine g_slT (.of ea) (not_whole (by simp)) fun p1 H1 n1 e1 s1 => ?_
    walk_at "go"
    refine g_listT (.of e1) fun l H2 nl el s2 => ?_
    have k2 : Tk H H2 := Same.tk (s1.trans s2)
    exact q l _ H2 (s1.free nl) el (.cons (t2.mono k2) (.cons (t3.mono k2) .nil)) (s1.trans s2)
  | whn b c d =>
    obtain ⟨a, xs, rfl, ea, h1⟩ := t.tup_inv
    obtain ⟨x1, r1, rfl, t1, h1⟩ := h1.cons_inv
    obtain ⟨x2, r1, rfl, t2, h1⟩ := h1.cons_inv
    obtain ⟨x3, r1, rfl, t3, h1⟩ := h1.cons_inv
    obtain ⟨x4, r1, rfl, t4, h1⟩ := h1.cons_inv
    rw [h1.nil_inv, t1.str_inv] at ea
    refine g_ixT (.of ea) (atI_of (by decide) rfl) (g_inK T (r := true) (by decide +kernel) ?_)
    walk_at "go"
    refine g_T rfl ?_
    walk_at "go"
    refine g_slT (.of ea) (not_whole (by simp)) fun p1 H1 n1 e1 s1 => ?_
    walk_at "go"
    refine g_listT (.of e1) fun l H2 nl el s2 => ?_
    have k2 : Tk H H2 := Same.tk (s1.trans s2)
    exact q l _ H2 (s1.free nl) el (.cons (t2.mono k2) (.cons (t3.mono k2) (.cons (t4.mono k2) .nil))) (s1.trans s2)
  | letp r b =>
    obtain ⟨a, x, y, z, rfl, ea, t1, t2, t3⟩ := t.three
    rw [t1.str_inv] at ea
    refine g_ixT (.of ea) (atI_of (by decide) rfl) (g_inK T (r := false) (by decide +kernel) ?_)
    walk_at "go"
    refine g_F rfl ?_
    walk_at "go"
    refine g_ixT (.of ea) (atI_of (by decide) rfl) ?_
    walk_at "go"
    refine g_T (by decide +kernel) ?_
    walk_at "go"
    refine g_seqT ?_
    walk_at "go"
    refine g_ixT (.of ea) (atI_of (by decide) rfl) ?_
    obtain ⟨ra, rs, rfl, er, tr⟩ := t2.tup_inv
    refine g_isT (.of er) fun dn hdn => ?_
    have hlen : rs.length = r.parts.length := by rw [tr.length, r.len]
    have hfew : r.parts.length ≤ 60 := by
      have h1 := r.sz
      have h2 := sz_len r.parts
      have h3 : 1 + (r.size + b.size) ≤ 60 := hz
      omega
    refine lc_any rs.length (fun i acc H' => Tps H' acc ((r.parts.take i).map Part.data) ∧ Same H H' ∧ acc.length = i) hdn
      (fun H' _ s => ⟨.nil, s, rfl⟩) (fun i acc H' hi ⟨_, s, _⟩ => ⟨_, _, .of (s _ _ er), List.getElem?_eq_getElem hi⟩) (fun acc H' ⟨_, s, _⟩ => ⟨_, .of (s _ _ er), Nat.le_refl _⟩) ?_ ?_
    · rintro i x acc _ H5 hi hl ⟨ta, s5, hacc⟩ hd5 ⟨rfl, hx⟩
      obtain ⟨d, hd, tx⟩ := tr.get (hx _ (.of (s5 _ _ er)))
      obtain ⟨nm, p, hnm, hp, rfl⟩ := Rows.get hd
      obtain ⟨a2, u1, u2, rfl, ea2, _, tp⟩ := tx.two
      refine g_un2 (s5 _ _ ea2) ?_
      refine ⟨rfl, ?_⟩
      walk_at "go"
      refine g_T rfl ?_
      walk_at "go"
      refine lc_step hd5 hl (by show _ < 16777216; omega) fun H6 e6 c6 => ?_
      refine ⟨?_, Same.chg s5 hdn c6, by simp [hacc]⟩
      rw [List.take_add_one, hp, List.map_append]
      exact Tps.append (ta.mono (c6.tkl hd5)) (.one (((tp.mono (Same.tk s5))).mono (c6.tkl hd5)))
    rintro us H5 hd5 ⟨tu, s5, hacc⟩
    rw [hlen, List.take_length] at tu
    walk_at "go"
    refine g_ixT (.of (s5 _ _ ea)) (atI_of (by decide) rfl) ?_
    walk_at "go"
    intro l6 H6 nl6 el6 s6
    walk_at "go"
    refine g_addL (s6 _ _ hd5) el6 (by rw [hacc, hlen]; show _ + 1 ≤ 16777216; omega) fun l H7 nl el s7 => ?_
    have s07 : Same H H7 := s5.trans (s6.trans s7)
    refine q l _ H7 (s5.free (s6.free nl)) el ?_ s07
    show Tps H7 _ ((r.parts ++ [b]).map Part.data)
    rw [List.map_append]
    exact Tps.append (tu.mono (Same.tk (s6.trans s7))) (.one (t3.mono (Same.tk s07)))
/-! ### the parts in order -/
def spOrder : Sp := fun vs H Q _ => ∃ (v : V) (p : Part), vs = [v] ∧ Tp H v p.data ∧ p.good ∧ p.size ≤ 60 ∧ ∀ (l : Addr) (us : List V) (H' : Hp), H l = none → H' l = some (.lst us) → Tps H' us (p.all.map Part.data) → Same H H' → Q (.ref l) H'
theorem pure_order {K : PySem.W.Frag} {w : World} : PureOk 1 spOrder (t_in_order K w spKids) 4 := by
  refine ⟨fun vs H Q E ⟨_, _, e, _⟩ => by rw [e]; rfl, ?_⟩
  rintro vs H Q E ⟨v, p, rfl, t, hg, hz, q⟩
  show t_in_order K w _ _ [some v, none, none, none] H
  unfold t_in_order
  walk_at "go"
  intro fl H1 nf ef s1
  walk_at "go"
  intro pl H2 np ep s2
  walk_at "go"
  have hfp : fl ≠ pl := ne_of_none ef np
  refine while_any (fun m σ H' => ∃ (x3 : Option V) (us vs : List V) (fs ps : List Part), σ = [some v, some (.ref fl), some (.ref pl), x3] ∧ H' fl = some (.lst us) ∧ H' pl = some (.lst vs) ∧ Tps H' us (fs.map Part.data) ∧ Tps H' vs (ps.map Part.data) ∧
      allGood ps ∧ fs ++ ps.reverse.flatMap Part.all = p.all ∧ fs.length + sz ps = p.size ∧ m = sz ps ∧ Same H H') (p.size + 0)
    ⟨none, [], [v], [], [p], rfl, s2 _ _ ef, ep, .nil, .cons (t.mono (Same.tk (s1.trans s2))) .nil, fun x hx => by rw [List.mem_singleton.mp hx]; exact hg, by simp, by show 0 + (p.size + 0) = _; omega, rfl, s1.trans s2⟩ ?_
  rintro m σ H3 ⟨x3, us, vs, fs, ps, rfl, hf, hp, tf, tp, hgs, hall, hn, rfl, s3⟩
  walk_at "go"
  intro e4 H4 ne4 ee4 s4
  have hg4 := shaped_parts hgs
  refine g_neLL (s4 _ _ hp) ee4 (tp.mono (Same.tk s4)) .nil hg4 shaped_nil ?_
  rw [eqv_nil]
  walk_at "go"
  refine g_ite (fun hne => ?_) (fun hne => ?_)
  · refine g_turn ?_
    obtain ⟨ps', p1, rfl⟩ : ∃ ps' p1, ps = ps' ++ [p1] := by
      have : ps ≠ [] := by rintro rfl; simp at hne
      exact ⟨ps.dropLast, ps.getLast this, (List.dropLast_concat_getLast this).symm⟩
    have hg1 : p1.good := hgs p1 (by simp)
    have hz1 : p1.size ≤ 60 := by
      have := sz_mem (q := p1) (a := ps' ++ [p1]) (by simp)
      omega
    rw [List.map_append] at tp
    obtain ⟨vs', v1, rfl, tp', t1⟩ := tp.snoc_inv
    have hp4 := s4 _ _ hp
    walk_at "go"
    refine g_tyl (.of hp4) ?_
    refine g_pop hp4 fun H5 e5 c5 => ?_
    walk_at "go"
    have s5 : Chg pl H H5 := fun b o n e => c5 b o n (s4 b o (s3 b o e))
    have k5 : Tk H3 H5 := (Same.tk s4).trans (c5.tkl hp4)
    have hf5 := c5 _ _ hfp (s4 _ _ hf)
    refine g_tyl (.of hf5) ?_
    walk_at "go"
    have hul : us.length = fs.length := by rw [tf.length, List.length_map]
    refine g_append hf5 (by rw [hul]; show _ < 16777216; omega) fun H6 e6 c6 => ?_
    walk_at "go"
    have k6 : Tk H3 H6 := k5.trans (c6.tkl hf5)
    have hp6 := c6 _ _ hfp.symm e5
    refine g_tyl (.of hp6) ?_
    walk_at "go"
    refine ⟨v1, p1, rfl, t1.mono k6, hg1, hz1, fun l7 ks H7 nl7 el7 tk7 s7 => ?_⟩
    refine g_revL (.of el7) ?_
    intro l8 H8 nl8 el8 s8
    have tk8 : Tps H8 ks.reverse (p1.kids.map Part.data).reverse := (tk7.mono (Same.tk s8)).reverse
    have hp8 := s8 _ _ (s7 _ _ hp6)
    have hsz := p1.sz_kids
    have hkl : ks.length = p1.kids.length := by rw [tk7.length, List.length_map]
    have hvl : vs'.length = ps'.length := by rw [tp'.length, List.length_map]
    have h1 := sz_len p1.kids
    have h2 := sz_len ps'
    have h3 := sz_app ps' [p1]
    have h4 : sz [p1] = p1.size := Nat.add_zero _
    walk_at "go"
    refine g_extend hp8 el8 (by rw [List.length_reverse, hkl, hvl]; show _ ≤ 16777216; omega) fun H9 e9 c9 => ?_
    walk_at "go"
    have k9 : Tk H8 H9 := c9.tkl hp8
    have k39 : Tk H3 H9 := (k6.trans (Same.tk (s7.trans s8))).trans k9
    have fl9 := c9 _ _ hfp (s8 _ _ (s7 _ _ e6))
    have npl : H pl = none := s1.free np
    have nfl : H fl = none := nf
    refine ⟨sz (ps' ++ p1.kids.reverse), by rw [sz_app, sz_rev]; omega, _, _, _, fs ++ [p1], ps' ++ p1.kids.reverse, rfl, fl9, e9, ?_, ?_, ?_, ?_, ?_, rfl, ?_⟩
    · rw [List.map_append]
      exact Tps.append (tf.mono k39) (.one (t1.mono k39))
    · rw [List.map_append, List.map_reverse]
      exact Tps.append (tp'.mono k39) (tk8.mono k9)
    · intro x hx
      rcases List.mem_append.mp hx with hx | hx
      · exact hgs x (List.mem_append.mpr (.inl hx))
      · exact hg1.kids x (List.mem_reverse.mp hx)
    · rw [← hall, List.reverse_append, List.reverse_append, List.reverse_reverse, List.flatMap_append, List.append_assoc]
      show fs ++ (p1 :: (p1.kids.flatMap Part.all ++ _)) = fs ++ (p1 :: ps'.reverse).flatMap Part.all
      rw [List.flatMap_cons, p1.all_kids, List.cons_append]
    · rw [sz_app, sz_rev, List.length_append]
      show _ + 1 + _ = _
      omega
    · exact fun b o e => c9 b o (ne_of_none e npl) (s8 b o (s7 b o (c6 b o (ne_of_none e nfl) (s5 b o (ne_of_none e npl) e))))
  · walk_at "go"
    have hps : ps = [] := by
      cases ps with
      | nil => rfl
      | cons a b => simp at hne
    subst hps
    rw [List.reverse_nil, List.flatMap_nil, List.append_nil] at hall
    rw [hall] at tf
    exact q fl us H4 nf (s4 _ _ hf) (tf.mono (Same.tk s4)) (s3.trans s4)
def spMany : Sp := fun vs H Q _ => ∃ (v : V) (p : Part), vs = [v] ∧ Tp H v p.data ∧ p.good ∧ p.size ≤ 60 ∧ ∀ (H' : Hp), Same H H' → Q (.int p.size) H'

/-! ### programs' rows -/
theorem Part.fine.good {fs sc : List Str} {p : Part} (h : p.fine fs sc) : p.good := ⟨⟨fs, sc, h.ok⟩, h.deep⟩
def Prog.bodies (P : Prog) : List Part := P.fs.map (·.body) ++ [P.asked]
theorem Tp.prog {H : Hp} {v : V} {P : Prog} (h : Tp H v P.data) : ∃ a b u vs, v = .ref a ∧ H a = some (.tup [.ref b, u]) ∧ H b = some (.tup vs) ∧ Tps H vs (P.fs.map Fn1.data) ∧ Tp H u P.asked.data := by
  obtain ⟨a, x, u, rfl, ha, h1, h2⟩ := h.two
  obtain ⟨b, vs, rfl, hb, h3⟩ := h1.tup_inv
  exact ⟨a, b, u, vs, rfl, ha, hb, h3, h2⟩
theorem Tp.fn1 {H : Hp} {v : V} {f : Fn1} (h : Tp H v f.data) : ∃ a b u, v = .ref a ∧ H a = some (.tup [.str f.name, .ref b, u]) ∧ H b = some (.tup (f.things.map V.str)) ∧ Tp H u f.body.data := by
  obtain ⟨a, x, y, u, rfl, ha, h1, h2, h3⟩ := h.three
  obtain ⟨b, vs, rfl, hb, h4⟩ := h2.tup_inv
  have : vs = f.things.map V.str := by
    have : ∀ (ss : List Str) (vs : List V), Tps H vs (ss.map PyData.str) → vs = ss.map V.str := by
      intro ss
      induction ss with
      | nil => intro vs h; exact h.nil_inv
      | cons s ss ih =>
        intro vs h
        obtain ⟨v, us, rfl, hv, hu⟩ := Tps.cons_inv (ds := ss.map PyData.str) h
        rw [hv.str_inv, ih us hu]
        rfl
    exact this _ _ h4
  subst this
  rw [h1.str_inv] at ha
  exact ⟨a, b, u, rfl, ha, hb, h3⟩
def spLaw (K : PySem.W.Frag) : Sp := fun vs H Q _ => ∃ (a : Addr) (ns : List Int), vs = [.ref a] ∧ SqL K H a (ns.map V.int) ∧ ns.length ≤ 63 ∧ ∀ H', Q (.bl true) H'
/-- drawn programs -/
def spRight : Sp := fun vs H Q _ => ∃ (v : V) (P : Prog), vs = [v] ∧ Tp H v P.data ∧ P.fine ∧ ∀ H' : Hp, Same H H' → Q (.bl true) H'

/-! ### numbers, things, wants of functions -/
/-- f is the j-th function's name, or none is and j is how many there are -/
def NumAt (P : Prog) (f : Str) (j : Nat) : Prop := P.names[j]? = some f ∨ (f ∉ P.names ∧ j = P.names.length)
def spNum : Sp := fun vs H Q _ => ∃ (v : V) (P : Prog) (f : Str) (j : Nat), vs = [v, .str f] ∧ Tp H v P.data ∧ P.fine ∧ NumAt P f j ∧ ∀ H' : Hp, Same H H' → Q (.int j) H'
/-- the things of the function f -/
def ThingsAt (P : Prog) (f : Str) (ts : List Str) : Prop := (∃ (j : Nat) (fn : Fn1), P.fs[j]? = some fn ∧ fn.name = f ∧ ts = fn.things) ∨ (f ∉ P.names ∧ ts = [])
def spThings : Sp := fun vs H Q _ => ∃ (v : V) (P : Prog) (f : Str) (ts : List Str), vs = [v, .str f] ∧ Tp H v P.data ∧ P.fine ∧ ThingsAt P f ts ∧ ∀ (a : Addr) (H' : Hp), H' a = some (.tup (ts.map V.str)) → Same H H' → Q (.ref a) H'
def spWants : Sp := fun vs H Q _ => ∃ (v : V) (P : Prog) (f : Str) (ts : List Str), vs = [v, .str f] ∧ Tp H v P.data ∧ P.fine ∧ ThingsAt P f ts ∧ ∀ (H' : Hp), Same H H' → Q (.int ts.length) H'

/-! ### parts by their words -/
def Part.word : Part → Str
  | .num _ => "number"
  | .name _ => "name"
  | .fn _ => "fun"
  | .one k _ => k.word
  | .two k _ _ => k.word
  | .whn _ _ _ => "when"
  | .letp _ _ => "let"
  | .shut _ => "shut"
def Part.args : Part → List PyData
  | .num n => [.int n]
  | .name x => [.str x]
  | .fn f => [.str f]
  | .one _ a => [a.data]
  | .two _ a b => [a.data, b.data]
  | .whn a b c => [a.data, b.data, c.data]
  | .letp r a => [.tuple r.datas, a.data]
  | .shut a => [a.data]
theorem Part.data_eq (p : Part) : p.data = .tuple (.str p.word :: p.args) := by cases p <;> rfl
/-- the parts that are things of a part's tuple -/
def Part.subs : Part → List Part
  | .one _ a => [a]
  | .two _ a b => [a, b]
  | .whn a b c => [a, b, c]
  | .shut a => [a]
  | _ => []
def plainWord (x : Str) : Prop := x ∉ [("number" : Str), "fun", "let", "name"]
theorem Part.args_subs {p : Part} (h : plainWord p.word) : p.args = p.subs.map Part.data := by
  cases p with
  | num n => exact absurd (show ("number" : Str) ∈ [("number" : Str), "fun", "let", "name"] from by simp) h
  | name n => exact absurd (show ("name" : Str) ∈ [("number" : Str), "fun", "let", "name"] from by simp) h
  | fn n => exact absurd (show ("fun" : Str) ∈ [("number" : Str), "fun", "let", "name"] from by simp) h
  | letp r a => exact absurd (show ("let" : Str) ∈ [("number" : Str), "fun", "let", "name"] from by simp) h
  | _ => rfl
theorem Tp.part {H : Hp} {v : V} {p : Part} (h : Tp H v p.data) : ∃ a xs, v = .ref a ∧ H a = some (.tup (.str p.word :: xs)) ∧ Tps H xs p.args := by
  rw [p.data_eq] at h
  obtain ⟨a, xs, rfl, h1, h2⟩ := h.tup_inv
  obtain ⟨x, us, rfl, hx, hu⟩ := h2.cons_inv
  rw [hx.str_inv] at h1
  exact ⟨a, us, rfl, h1, hu⟩
mutual
/-- how many parts, those within shut ones too -/
def Part.big : Part → Nat
  | .num _ => 1
  | .name _ => 1
  | .fn _ => 1
  | .one _ a => 1 + a.big
  | .two _ a b => 1 + (a.big + b.big)
  | .whn a b c => 1 + (a.big + (b.big + c.big))
  | .letp r a => 1 + (r.big + a.big)
  | .shut a => 1 + a.big
def Rows.big : Rows → Nat
  | .nil => 0
  | .cons _ a r => a.big + r.big
end
def bsum : List Part → Nat
  | [] => 0
  | p :: r => p.big + bsum r
mutual
/-- a part of which nothing is asked but that its functions are there; shut ones too -/
def Part.wf (fs : List Str) : Part → Prop
  | .num _ => True
  | .name _ => True
  | .fn f => f ∈ fs
  | .one _ a => a.wf fs
  | .two _ a b => a.wf fs ∧ b.wf fs
  | .whn a b c => a.wf fs ∧ b.wf fs ∧ c.wf fs
  | .letp r a => r.wf fs ∧ a.wf fs
  | .shut a => a.wf fs
def Rows.wf (fs : List Str) : Rows → Prop
  | .nil => True
  | .cons _ a r => a.wf fs ∧ r.wf fs
end
/-- what stands ahead of a part's gives; the things that it is given, in their order -/
def Part.head : Part → Part
  | .two .give a _ => a.head
  | p => p
def Part.given : Part → List Part
  | .two .give a b => a.given ++ [b]
  | _ => []
/-- how many things f wants -/
def Prog.wantsOf (P : Prog) (f : Str) : Nat := match P.fs.find? (fun g => decide (g.name = f)) with
  | some g => g.things.length
  | none => 0
/-- is it a worth -/
def Part.worth (P : Prog) (p : Part) : Bool := decide (p.word ∈ [("number" : Str), "pair"]) || match p.head with
  | .fn f => decide (p.given.length < P.wantsOf f)
  | _ => false
/-- rows of a list -/
def Rows.of : List (Str × Part) → Rows
  | [] => .nil
  | q :: r => .cons q.1 q.2 (Rows.of r)
def rowD (q : Str × Part) : PyData := .tuple [.str q.1, q.2.data]
/-- a pen's is no tuple -/
theorem pen_tup {H : Hp} {pen L b : Addr} {xs : List V} (h : PenAt H pen L) (e : H b = some (.tup xs)) : b ≠ pen := by
  obtain ⟨_, _, _, hp, _⟩ := h
  rintro rfl
  rw [hp] at e
  cases e
/-! layable, so deep -/
def layD (k : Nat) (d : PyData) : Prop := PyData.canLay0 d = true ∧ PyData.depth d ≤ k
def Part.lk (k : Nat) (p : Part) : Prop := layD k p.data
theorem depAll_of {k : Nat} : ∀ {ds : List PyData}, (∀ d ∈ ds, PyData.depth d ≤ k) → PyData.depthAll ds ≤ k
  | [], _ => by rw [PyData.depthAll]; omega
  | d :: ds, h => by
    have h1 := h d (by simp)
    have h2 := depAll_of fun e he => h e (List.mem_cons_of_mem _ he)
    rw [PyData.depthAll]
    omega
theorem layD.mono {j k : Nat} {d : PyData} (h : layD j d) (hjk : j ≤ k) : layD k d := ⟨h.1, Nat.le_trans h.2 hjk⟩
theorem Part.lk.mono {j k : Nat} {p : Part} (h : p.lk j) (hjk : j ≤ k) : p.lk k := layD.mono h hjk
theorem cut_tail {x : V} {xs : List V} : cutV (x :: xs) (some 1) none = xs := by
  unfold cutV
  rw [HT.sIx_none, show (1 : Int) = ((1 : Nat) : Int) from rfl, HT.sIx_nat, List.length_cons, Nat.min_eq_left (by omega)]
  show xs.take _ = xs
  rw [List.take_of_length_le (by omega)]
theorem subs_kids {p : Part} (hw : plainWord p.word) (hs : p.word ≠ "shut") : p.subs = p.kids := by
  cases p with
  | letp r a => exact absurd (show ("let" : Str) ∈ [("number" : Str), "fun", "let", "name"] from by simp) hw
  | shut a => exact absurd rfl hs
  | _ => rfl
theorem not_name {p : Part} (hw : plainWord p.word) : p.word ≠ "name" := fun e => hw (by rw [e]; simp)
theorem word_cases (p : Part) : (∃ n, p = .num n) ∨ (∃ x, p = .name x) ∨ (∃ f, p = .fn f) ∨ (∃ r a, p = .letp r a) ∨ (∃ a, p = .shut a) ∨ (plainWord p.word ∧ p.word ≠ "shut") := by
  cases p with
  | num n => exact .inl ⟨n, rfl⟩
  | name n => exact .inr (.inl ⟨n, rfl⟩)
  | fn n => exact .inr (.inr (.inl ⟨n, rfl⟩))
  | letp r a => exact .inr (.inr (.inr (.inl ⟨r, a, rfl⟩)))
  | shut a => exact .inr (.inr (.inr (.inr (.inl ⟨a, rfl⟩))))
  | one k a => exact .inr (.inr (.inr (.inr (.inr (by cases k <;> (simp only [plainWord, Part.word, K1.word]; decide))))))
  | two k a b => exact .inr (.inr (.inr (.inr (.inr (by cases k <;> (simp only [plainWord, Part.word, K2.word]; decide))))))
  | whn a b c => exact .inr (.inr (.inr (.inr (.inr (by simp only [plainWord, Part.word]; decide)))))
def Rows.list : Rows → List (Str × Part)
  | .nil => []
  | .cons x a r => (x, a) :: r.list
theorem Rows.list_parts : ∀ r : Rows, r.parts = r.list.map (·.2)
  | .nil => rfl
  | .cons x a r => by
    show a :: r.parts = _
    rw [Rows.list_parts r]
    rfl
theorem Rows.list_names : ∀ r : Rows, r.names = r.list.map (·.1)
  | .nil => rfl
  | .cons x a r => by
    show x :: r.names = _
    rw [Rows.list_names r]
    rfl

/-! ### pens, parts: for the search -/
theorem ne_pen {H : Hp} {pen L a : Addr} (h : PenAt H pen L) (h' : Fr H a) : pen ≠ a := (h.ne h').1
theorem ne_penL {H : Hp} {pen L a : Addr} (h : PenAt H pen L) (h' : Fr H a) : L ≠ a := (h.ne h').2
theorem Chg.to_pen {H H' : Hp} {pen L b : Addr} {xs : List V} (c : Chg pen H H') (hP : PenAt H pen L) (h : H b = some (.tup xs)) : H' b = some (.tup xs) := c b _ (pen_tup hP h) h
local macro_rules | `(tactic| walk_at "at") => `(tactic| first
  | assumption
  | ((with_reducible refine Same.to (H := ?gh) ?gs ?gt); (case gs => assumption); walk_at "at")
  | ((with_reducible refine Chg.to_pen (H := ?gh) (pen := ?ga) (L := ?gl) (xs := ?gx) ?gs ?gp ?gt); (case gs => assumption); (case gp => walk_at "pen0"); (case gt => walk_at "at"))
  | ((with_reducible refine Chg.to (H := ?gh) (a := ?ga) ?gs ?gt ?gn); (case gs => assumption); (case gn => walk_at "ne"); (case gt => walk_at "at")))
local macro_rules | `(tactic| walk_at "free") => `(tactic| first
  | assumption
  | ((with_reducible refine Same.free (H' := ?gh) ?gs ?gt); (case gs => assumption); walk_at "free")
  | ((with_reducible refine Chg.free (H' := ?gh) (a := ?ga) ?gs ?gn ?gt); (case gs => assumption); (case gn => walk_at "ne"); walk_at "free"))
local macro_rules | `(tactic| walk_at "ne") => `(tactic| first
  | assumption
  | (refine Ne.symm ?gt; assumption)
  | ((refine ne_fr (H := ?gh) (o := ?go) ?g1 ?g2); (case g2 => assumption); (case g1 => walk_at "at"))
  | ((refine Ne.symm (ne_fr (H := ?gh) (o := ?go) ?g1 ?g2)); (case g2 => assumption); (case g1 => walk_at "at"))
  | ((refine ne_pen (H := ?gh) (L := ?gl) ?g1 ?g2); (case g2 => assumption); (case g1 => walk_at "pen0"))
  | ((refine ne_penL (H := ?gh) (pen := ?gl) ?g1 ?g2); (case g2 => assumption); (case g1 => walk_at "pen0"))
  | ((refine Ne.symm (ne_pen (H := ?gh) (L := ?gl) ?g1 ?g2)); (case g2 => assumption); (case g1 => walk_at "pen0"))
  | ((refine Ne.symm (ne_penL (H := ?gh) (pen := ?gl) ?g1 ?g2)); (case g2 => assumption); (case g1 => walk_at "pen0")))
local macro_rules | `(tactic| walk_at "pen0") => `(tactic| first
  | assumption
  | ((with_reducible refine PenAt.same (H := ?gh) ?gt ?gs); (case gs => assumption); walk_at "pen0"))
local macro_rules | `(tactic| walk_at "pen") => `(tactic| first
  | assumption
  | ((with_reducible refine PenAt.same (H := ?gh) ?gt ?gs); (case gs => assumption); walk_at "pen")
  | ((with_reducible refine PenAt.chg (H := ?gh) (d := ?gd) ?gt ?gs ?g1 ?g2); (case gs => assumption); (case g1 => walk_at "ne"); (case g2 => walk_at "ne"); walk_at "pen"))
local macro_rules | `(tactic| walk_at "tk") => `(tactic| first
  | assumption
  | exact Tk.refl _
  | ((with_reducible refine Tk.same (H1 := ?gh) ?gt ?gs); (case gs => assumption); walk_at "tk")
  | ((with_reducible refine Tk.lst (H1 := ?gh) (a := ?ga) (ys := ?gy) ?gt ?gs ?gl); (case gs => assumption); (case gl => walk_at "at"); walk_at "tk")
  | ((with_reducible refine Tk.dct (H1 := ?gh) (a := ?ga) (kvs := ?gy) ?gt ?gs ?gl); (case gs => assumption); (case gl => walk_at "at"); walk_at "tk")
  | ((with_reducible refine Tk.trans (H1 := ?gh) ?gt (PenAt.tk (pen := ?gp) (L := ?gq) ?gl ?gs)); (case gs => assumption); (case gl => walk_at "pen"); walk_at "tk")
  | ((with_reducible refine Tk.trans (H1 := ?gh) ?gt ?gs); (case gs => assumption); walk_at "tk"))
local macro_rules | `(tactic| walk_at "same") => `(tactic| first
  | assumption
  | exact Same.refl _
  | ((with_reducible refine Same.more (H1 := ?gh) ?gt ?gs); (case gs => assumption); walk_at "same")
  | ((with_reducible refine Same.more2 (H1 := ?gh) (d := ?gd) ?gt ?gs ?gf); (case gs => assumption); (case gf => walk_at "free"); walk_at "same"))
local macro_rules | `(tactic| walk_at "chg") => `(tactic| first
  | assumption
  | exact Chg.refl
  | ((with_reducible refine Chg.trans (H1 := ?gh) ?gt ?gs); (case gs => assumption); walk_at "chg")
  | ((with_reducible refine Chg.trans (H1 := ?gh) ?gt (Chg.same ?gs)); (case gs => assumption); walk_at "chg")
  | ((with_reducible refine Chg.fresh (H1 := ?gh) (d := ?gd) ?gt ?gf ?gs); (case gs => assumption); (case gf => walk_at "free"); walk_at "chg"))
local macro_rules | `(tactic| walk_at "tps") => `(tactic| first
  | assumption
  | exact Tps.nil
  | (with_reducible (refine Tps.cons ?g1 ?g2); (case g1 => walk_at "tp"); walk_at "tps")
  | ((refine Tps.to (H := ?gh) ?gt ?gk); (case gt => assumption); walk_at "tk"))
local macro_rules | `(tactic| walk_at "tp") => `(tactic| first
  | assumption
  | exact Tp.str _
  | exact Tp.int _
  | exact Tp.bl _
  | exact Tp.non
  | ((refine Tp.to (H := ?gh) ?gt ?gk); (case gt => assumption); walk_at "tk")
  | ((refine Tp.tup (xs := ?gx) ?g1 ?g2); (case g1 => walk_at "at"); walk_at "tps"))
local macro_rules | `(tactic| walk_at "g2") => `(tactic| first
  | walk_at "g1"
  | with_reducible refine New.mk fun p H n e s => ?_
  | with_reducible refine Put.mk fun H e c => ?_
  | ((with_reducible refine g_ixTa (xs := ?gx) (v := ?gv) ?gh ?ge ?gi ?gt); (case gh => walk_at "at"); (case ge => exact rfl); (case gi => decide))
  | ((with_reducible refine g_ixLa (xs := ?gx) (v := ?gv) ?gh ?ge ?gi ?gt); (case gh => walk_at "at"); (case ge => exact rfl); (case gi => decide))
  | ((with_reducible refine g_tyl (xs := ?gx) (SqL.of ?gh) ?gt); (case gh => walk_at "at"))
  | ((with_reducible refine g_T ?gh ?gt); (case gh => exact rfl))
  | ((with_reducible refine g_F ?gh ?gt); (case gh => exact rfl))
  | ((with_reducible refine g_lenL (xs := ?gx) (SqL.of ?gh) ?gt); (case gh => walk_at "at"))
  | ((with_reducible refine g_lenT (xs := ?gx) (SqT.of ?gh) ?gt); (case gh => walk_at "at"))
  | ((with_reducible refine g_tupleL (xs := ?gx) (SqL.of ?gh) ?gt); (case gh => walk_at "at"))
  | ((with_reducible refine g_tupleT (xs := ?gx) (SqT.of ?gh) ?gt); (case gh => walk_at "at"))
  | ((with_reducible refine g_listL (xs := ?gx) (SqL.of ?gh) ?gt); (case gh => walk_at "at"))
  | ((with_reducible refine g_listT (xs := ?gx) (SqT.of ?gh) ?gt); (case gh => walk_at "at"))
  | ((refine g_un2 (x := ?gx) (y := ?gy) ?gh ?gt); (case gh => walk_at "at"); (try dsimp only [List.set]))
  | ((refine g_un3 (x := ?gx) (y := ?gy) (z := ?gz) ?gh ?gt); (case gh => walk_at "at"); (try dsimp only [List.set]))
  | ((with_reducible refine g_inX (xs := ?gx) (r := true) ?gh ?gf ?ge ?gt); (case gh => walk_at "at"); (case gf => exact rfl); (case ge => exact rfl))
  | ((with_reducible refine g_inX (xs := ?gx) (r := false) ?gh ?gf ?ge ?gt); (case gh => walk_at "at"); (case gf => exact rfl); (case ge => exact rfl))
  | ((with_reducible refine g_notInX (xs := ?gx) (r := true) ?gh ?gf ?ge ?gt); (case gh => walk_at "at"); (case gf => exact rfl); (case ge => exact rfl))
  | ((with_reducible refine g_notInX (xs := ?gx) (r := false) ?gh ?gf ?ge ?gt); (case gh => walk_at "at"); (case gf => exact rfl); (case ge => exact rfl))
  | ((with_reducible refine g_inK (kvs := ?gk) (r := false) ?gh ?ge ?gt); (case gh => assumption); (case ge => exact rfl))
  | ((with_reducible refine g_inK (kvs := ?gk) (r := true) ?gh ?ge ?gt); (case gh => assumption); (case ge => exact rfl))
  | ((with_reducible refine g_dnew ?gt))
  | ((with_reducible refine g_isTa (xs := ?gx) ?gh ?gt); (case gh => walk_at "at"))
  | ((with_reducible refine g_isLa (xs := ?gx) ?gh ?gt); (case gh => walk_at "at")))
local macro_rules | `(tactic| walk_at "gg") => `(tactic| repeat walk_at "g2")
local macro_rules | `(tactic| walk_at "len") => `(tactic| (show _ ≤ 16777216; simp only [List.length_append, List.length_cons, List.length_nil, List.length_map, List.length_reverse]; omega))
local macro_rules | `(tactic| walk_at "g2") => `(tactic| first
  | ((with_reducible refine g_neNil (xs := ?gx) ?gh ?gi ?gt); (case gi => walk_at "at"); (case gh => walk_at "at"))
  | ((with_reducible refine g_eqNil (xs := ?gx) ?gh ?gi ?gt); (case gi => walk_at "at"); (case gh => walk_at "at"))
  | ((with_reducible refine g_inGT (xs := ?gx) (r := true) ?gh ?gf ?ge ?gt); (case gh => assumption); (case gf => exact rfl); (case ge => exact rfl))
  | ((with_reducible refine g_inGT (xs := ?gx) (r := false) ?gh ?gf ?ge ?gt); (case gh => assumption); (case gf => exact rfl); (case ge => exact rfl))
  | with_reducible refine g_neBI ?_ | with_reducible refine g_neBS ?_ | with_reducible refine g_eqBI ?_ | with_reducible refine g_eqBS ?_
  | with_reducible refine g_dictZ ?_
  | with_reducible refine g_zipM ?_
  | ((with_reducible refine g_dict (kvs := ?gx) ?gh ?gt); (case gh => walk_at "at"))
  | ((with_reducible refine g_addL (xs := ?gx) (ys := ?gy) ?gh ?gi ?gl ?gt); (case gh => walk_at "at"); (case gi => walk_at "at"); (case gl => walk_at "len")))
local macro_rules | `(tactic| walk_at "draw") => `(tactic| ((refine g_draw (L := ?gl) ?gp ?g0 ?g1 ?gq); (case gp => walk_at "pen"); (case g0 => decide); (case g1 => decide)))
local macro_rules | `(tactic| walk_at "g2") => `(tactic| first
  | with_reducible refine g_fld ?_ | with_reducible refine g_sfld ?_ | with_reducible refine g_meth ?_ | with_reducible refine g_make ?_
  | ((with_reducible refine g_fldr (C := ?gC) (dx := ?gd) (fs := ?gx) (v := ?gw) ?gh ?gc ?gn ?gv ?gt); (case gh => walk_at "at"); (case gc => assumption); (case gn => assumption); (case gv => exact rfl))
  | ((with_reducible refine g_methr (dx := ?gd) (fs := ?gx) ?gh ?gn ?gt); (case gh => walk_at "at"); (case gn => exact rfl))
  | with_reducible refine g_maker fun x dx H n e s => ?_)
local macro_rules | `(tactic| walk_at "g2") => `(tactic| first
  | with_reducible refine g_calE ?_ | with_reducible refine g_calS ?_ | with_reducible refine g_calN ?_ | with_reducible refine g_raiseO ?_ | with_reducible refine g_raiseI ?_ | with_reducible refine g_tryK ?_)

/-! ### closed parts put in -/
theorem Lk.up {K : PySem.W.Frag} {H : Hp} : ∀ {n m : Nat} {x y : V}, n ≤ m → Lk K H n x y → Lk K H m x y
  | 0, _, _, _, _, h => h.elim
  | n + 1, 0, _, _, hnm, _ => absurd hnm (by omega)
  | n + 1, m + 1, x, y, hnm, h => by
    have pu : ∀ {xs ys : List V}, Paired (Lk K H n) xs ys → Paired (Lk K H m) xs ys := by
      intro xs ys p
      induction p with
      | nil => exact .nil
      | cons a _ ih => exact .cons (Lk.up (by omega) a) ih
    rcases h with h | h | ⟨a, b, xs, ys, e1, e2, h1, h2, p⟩ | ⟨a, b, xs, ys, e1, e2, h1, h2, p⟩
    · exact .inl h
    · exact .inr (.inl h)
    · exact .inr (.inr (.inl ⟨a, b, xs, ys, e1, e2, h1, h2, pu p⟩))
    · exact .inr (.inr (.inr ⟨a, b, xs, ys, e1, e2, h1, h2, pu p⟩))
section
variable {K : PySem.W.Frag} {H H' : Hp}
/-- two tuples of alike things -/
theorem Lk.tup {n : Nat} {a b : Addr} {xs ys : List V} (ha : H a = some (.tup xs)) (hb : H b = some (.tup ys)) (p : Paired (Lk K H n) xs ys) : Lk K H (n + 1) (.ref a) (.ref b) := .inr (.inr (.inr ⟨a, b, xs, ys, rfl, rfl, .of ha, .of hb, p⟩))
theorem Lk.flat {n : Nat} {x : V} (h : flatB x = true) : Lk K H (n + 1) x x := .inl ⟨rfl, h⟩
theorem Lk.same {n : Nat} {a : Addr} : Lk K H (n + 1) (.ref a) (.ref a) := .inr (.inl ⟨a, rfl, rfl⟩)
mutual
theorem Tp.like : ∀ {d : PyData} {v v' : V} {n : Nat}, Tp H v d → Tp H v' d → PyData.depth d < n → Lk K H n v v'
  | .none, _, _, n, h, h', hn => by
    cases h; cases h'
    obtain ⟨m, rfl⟩ : ∃ m, n = m + 1 := ⟨n - 1, by omega⟩
    exact .flat rfl
  | .bool b, _, _, n, h, h', hn => by
    cases h; cases h'
    obtain ⟨m, rfl⟩ : ∃ m, n = m + 1 := ⟨n - 1, by omega⟩
    exact .flat rfl
  | .int i, _, _, n, h, h', hn => by
    cases h; cases h'
    obtain ⟨m, rfl⟩ : ∃ m, n = m + 1 := ⟨n - 1, by omega⟩
    exact .flat rfl
  | .str x, _, _, n, h, h', hn => by
    cases h; cases h'
    obtain ⟨m, rfl⟩ : ∃ m, n = m + 1 := ⟨n - 1, by omega⟩
    exact .flat rfl
  | .tuple ds, _, _, n, h, h', hn => by
    cases h with
    | tup e r =>
      cases h' with
      | tup e' r' =>
        obtain ⟨m, rfl⟩ : ∃ m, n = m + 1 := ⟨n - 1, by omega⟩
        rw [PyData.depth] at hn
        exact .tup e e' (Tps.like r r' (by omega))
  | .list ds, _, _, _, h, _, _ => by cases h
  | .dict ds, _, _, _, h, _, _ => by cases h
theorem Tps.like : ∀ {ds : List PyData} {vs vs' : List V} {n : Nat}, Tps H vs ds → Tps H vs' ds → PyData.depthAll ds < n → Paired (Lk K H n) vs vs'
  | [], _, _, _, h, h', _ => by cases h; cases h'; exact .nil
  | d :: ds, _, _, n, h, h', hn => by
    rw [PyData.depthAll] at hn
    cases h with
    | cons a b =>
      cases h' with
      | cons a' b' => exact .cons (Tp.like a a' (by omega)) (Tps.like b b' (by omega))
end
end
mutual
def Part.put (env : Str → Option Part) : Part → Part
  | .num n => .num n
  | .name x => match env x with
    | some q => .shut q
    | none => .name x
  | .fn f => .fn f
  | .one k a => .one k (a.put env)
  | .two k a b => .two k (a.put env) (b.put env)
  | .whn a b c => .whn (a.put env) (b.put env) (c.put env)
  | .letp r a => .letp (r.put env) (a.put env)
  | .shut a => .shut a
def Rows.put (env : Str → Option Part) : Rows → Rows
  | .nil => .nil
  | .cons x a r => .cons x (a.put env) (r.put env)
end
mutual
/-- v is the part with the values dv in the place of names; the same objects in both -/
def PutAt (H : Hp) (dv : Str → Option V) : Part → V → Prop
  | .num n, v => Tp H v (Part.num n).data
  | .name x, v => match dv x with
    | some u => ∃ a, v = .ref a ∧ H a = some (.tup [.str "shut", u])
    | none => Tp H v (Part.name x).data
  | .fn f, v => Tp H v (Part.fn f).data
  | .one k a, v => ∃ r x, v = .ref r ∧ H r = some (.tup [.str k.word, x]) ∧ PutAt H dv a x
  | .two k a b, v => ∃ r x y, v = .ref r ∧ H r = some (.tup [.str k.word, x, y]) ∧ PutAt H dv a x ∧ PutAt H dv b y
  | .whn a b c, v => ∃ r x y z, v = .ref r ∧ H r = some (.tup [.str "when", x, y, z]) ∧ PutAt H dv a x ∧ PutAt H dv b y ∧ PutAt H dv c z
  | .letp rs a, v => ∃ r b xs x, v = .ref r ∧ H r = some (.tup [.str "let", .ref b, x]) ∧ H b = some (.tup xs) ∧ PutRows H dv rs xs ∧ PutAt H dv a x
  | .shut a, v => Tp H v (Part.shut a).data
def PutRows (H : Hp) (dv : Str → Option V) : Rows → List V → Prop
  | .nil, vs => vs = []
  | .cons x a r, vs => ∃ c u us, vs = .ref c :: us ∧ H c = some (.tup [.str x, u]) ∧ PutAt H dv a u ∧ PutRows H dv r us
end
section
variable {H H' : Hp} {dv : Str → Option V}
mutual
theorem PutAt.mono (k : Tk H H') : ∀ {p : Part} {v : V}, PutAt H dv p v → PutAt H' dv p v
  | .num n, v, h => Tp.mono k h
  | .name x, v, h => by
    unfold PutAt at h ⊢
    split at h
    · obtain ⟨a, e, h⟩ := h
      exact ⟨a, e, k _ _ h⟩
    · exact Tp.mono k h
  | .fn f, v, h => Tp.mono k h
  | .one _ a, v, ⟨r, x, e, h, h1⟩ => ⟨r, x, e, k _ _ h, PutAt.mono k h1⟩
  | .two _ a b, v, ⟨r, x, y, e, h, h1, h2⟩ => ⟨r, x, y, e, k _ _ h, PutAt.mono k h1, PutAt.mono k h2⟩
  | .whn a b c, v, ⟨r, x, y, z, e, h, h1, h2, h3⟩ => ⟨r, x, y, z, e, k _ _ h, PutAt.mono k h1, PutAt.mono k h2, PutAt.mono k h3⟩
  | .letp rs a, v, ⟨r, b, xs, x, e, h, hb, h1, h2⟩ => ⟨r, b, xs, x, e, k _ _ h, k _ _ hb, PutRows.mono k h1, PutAt.mono k h2⟩
  | .shut a, v, h => Tp.mono k h
theorem PutRows.mono (k : Tk H H') : ∀ {r : Rows} {vs : List V}, PutRows H dv r vs → PutRows H' dv r vs
  | .nil, vs, h => h
  | .cons x a r, vs, ⟨c, u, us, e, h, h1, h2⟩ => ⟨c, u, us, e, k _ _ h, PutAt.mono k h1, PutRows.mono k h2⟩
end
/-- what dv tells is what env tells -/
def EnvAt (H : Hp) (dv : Str → Option V) (env : Str → Option Part) : Prop := ∀ x, (dv x = none ∧ env x = none) ∨ ∃ u q, dv x = some u ∧ env x = some q ∧ Tp H u q.data
mutual
theorem PutAt.tp {env : Str → Option Part} (he : EnvAt H dv env) : ∀ {p : Part} {v : V}, PutAt H dv p v → Tp H v (p.put env).data
  | .num n, v, h => h
  | .name x, v, h => by
    unfold PutAt at h
    unfold Part.put
    rcases he x with ⟨e1, e2⟩ | ⟨u, q, e1, e2, t⟩
    · rw [e1] at h
      rw [e2]
      exact h
    · rw [e1] at h
      rw [e2]
      obtain ⟨a, rfl, h⟩ := h
      exact .tup h (.cons (.str _) (.one t))
  | .fn f, v, h => h
  | .one _ a, v, ⟨r, x, e, h, h1⟩ => by
    subst e
    exact .tup h (.cons (.str _) (.one (PutAt.tp he h1)))
  | .two _ a b, v, ⟨r, x, y, e, h, h1, h2⟩ => by
    subst e
    exact .tup h (.cons (.str _) (.cons (PutAt.tp he h1) (.one (PutAt.tp he h2))))
  | .whn a b c, v, ⟨r, x, y, z, e, h, h1, h2, h3⟩ => by
    subst e
    exact .tup h (.cons (.str _) (.cons (PutAt.tp he h1) (.cons (PutAt.tp he h2) (.one (PutAt.tp he h3)))))
  | .letp rs a, v, ⟨r, b, xs, x, e, h, hb, h1, h2⟩ => by
    subst e
    exact .tup h (.cons (.str _) (.cons (.tup hb (PutRows.tp he h1)) (.one (PutAt.tp he h2))))
  | .shut a, v, h => h
theorem PutRows.tp {env : Str → Option Part} (he : EnvAt H dv env) : ∀ {r : Rows} {vs : List V}, PutRows H dv r vs → Tps H vs (r.put env).datas
  | .nil, vs, h => by
    have : vs = [] := h
    rw [this]
    exact .nil
  | .cons x a r, vs, ⟨c, u, us, e, h, h1, h2⟩ => by
    subst e
    exact .cons (.tup h (.cons (.str _) (.one (PutAt.tp he h1)))) (PutRows.tp he h2)
end
/-- values that == finds alike at once -/
def FlatDv (dv : Str → Option V) : Prop := ∀ x u, dv x = some u → ∃ a, u = .ref a
mutual
/-- how deep likeness goes -/
def Part.ld : Part → Nat
  | .num _ => 3
  | .name _ => 3
  | .fn _ => 3
  | .one _ a => 1 + max 1 a.ld
  | .two _ a b => 1 + max 1 (max a.ld b.ld)
  | .whn a b c => 1 + max 1 (max a.ld (max b.ld c.ld))
  | .letp r a => 1 + max (1 + r.ld) a.ld
  | .shut a => 2 + PyData.depth a.data
def Rows.ld : Rows → Nat
  | .nil => 1
  | .cons _ a r => max (1 + max 1 a.ld) r.ld
end
mutual
theorem PutAt.like {K : PySem.W.Frag} (hd : FlatDv dv) : ∀ {p : Part} {v v' : V}, PutAt H dv p v → PutAt H dv p v' → Lk K H p.ld v v'
  | .num n, v, v', h, h' => Tp.like h h' (by simp [Part.data, PyData.depth, PyData.depthAll, Part.ld])
  | .name x, v, v', h, h' => by
    unfold PutAt at h h'
    cases e : dv x with
    | none =>
      rw [e] at h h'
      exact Tp.like h h' (by simp [Part.data, PyData.depth, PyData.depthAll, Part.ld])
    | some u =>
      rw [e] at h h'
      obtain ⟨a, rfl, h⟩ := h
      obtain ⟨b, rfl, h'⟩ := h'
      obtain ⟨c, rfl⟩ := hd x u e
      exact .tup (n := 2) h h' (.cons (.flat rfl) (.cons .same .nil))
  | .fn f, v, v', h, h' => Tp.like h h' (by simp [Part.data, PyData.depth, PyData.depthAll, Part.ld])
  | .one k a, v, v', ⟨r, x, e, h, h1⟩, ⟨r', x', e', h', h1'⟩ => by
    subst e; subst e'
    have i1 := (PutAt.like (K := K) hd h1 h1').up (show a.ld ≤ max 1 a.ld from by omega)
    have i0 : Lk K H (max 1 a.ld) (.str k.word) (.str k.word) := Lk.up (n := 1) (by omega) (.flat rfl)
    have := Lk.tup h h' (.cons i0 (.cons i1 .nil))
    exact this.up (by show _ ≤ 1 + max 1 a.ld; omega)
  | .two k a b, v, v', ⟨r, x, y, e, h, h1, h2⟩, ⟨r', x', y', e', h', h1', h2'⟩ => by
    subst e; subst e'
    have i1 := (PutAt.like (K := K) hd h1 h1').up (show a.ld ≤ max 1 (max a.ld b.ld) from by omega)
    have i2 := (PutAt.like (K := K) hd h2 h2').up (show b.ld ≤ max 1 (max a.ld b.ld) from by omega)
    have i0 : Lk K H (max 1 (max a.ld b.ld)) (.str k.word) (.str k.word) := Lk.up (n := 1) (by omega) (.flat rfl)
    exact (Lk.tup h h' (.cons i0 (.cons i1 (.cons i2 .nil)))).up (by show _ ≤ 1 + max 1 (max a.ld b.ld); omega)
  | .whn a b c, v, v', ⟨r, x, y, z, e, h, h1, h2, h3⟩, ⟨r', x', y', z', e', h', h1', h2', h3'⟩ => by
    subst e; subst e'
    have i1 := (PutAt.like (K := K) hd h1 h1').up (show a.ld ≤ max 1 (max a.ld (max b.ld c.ld)) from by omega)
    have i2 := (PutAt.like (K := K) hd h2 h2').up (show b.ld ≤ max 1 (max a.ld (max b.ld c.ld)) from by omega)
    have i3 := (PutAt.like (K := K) hd h3 h3').up (show c.ld ≤ max 1 (max a.ld (max b.ld c.ld)) from by omega)
    have i0 : Lk K H (max 1 (max a.ld (max b.ld c.ld))) (.str "when") (.str "when") := Lk.up (n := 1) (by omega) (.flat rfl)
    exact (Lk.tup h h' (.cons i0 (.cons i1 (.cons i2 (.cons i3 .nil))))).up (by show _ ≤ 1 + max 1 (max a.ld (max b.ld c.ld)); omega)
  | .letp rs a, v, v', ⟨r, b, xs, x, e, h, hb, h1, h2⟩, ⟨r', b', xs', x', e', h', hb', h1', h2'⟩ => by
    subst e; subst e'
    have i2 := (PutAt.like (K := K) hd h2 h2').up (show a.ld ≤ max (1 + rs.ld) a.ld from by omega)
    have i1 := (Lk.tup hb hb' (PutRows.like (K := K) hd h1 h1')).up (show rs.ld + 1 ≤ max (1 + rs.ld) a.ld from by omega)
    have i0 : Lk K H (max (1 + rs.ld) a.ld) (.str "let") (.str "let") := Lk.up (n := 1) (by omega) (.flat rfl)
    exact (Lk.tup h h' (.cons i0 (.cons i1 (.cons i2 .nil)))).up (by show _ ≤ 1 + max (1 + rs.ld) a.ld; omega)
  | .shut a, v, v', h, h' => Tp.like h h' (by simp [Part.data, PyData.depth, PyData.depthAll, Part.ld]; omega)
theorem PutRows.like {K : PySem.W.Frag} (hd : FlatDv dv) : ∀ {r : Rows} {vs vs' : List V}, PutRows H dv r vs → PutRows H dv r vs' → Paired (Lk K H r.ld) vs vs'
  | .nil, vs, vs', h, h' => by
    have e : vs = [] := h
    have e' : vs' = [] := h'
    rw [e, e']
    exact .nil
  | .cons x a r, vs, vs', ⟨c, u, us, e, h, h1, h2⟩, ⟨c', u', us', e', h', h1', h2'⟩ => by
    subst e; subst e'
    have i1 := (PutAt.like (K := K) hd h1 h1').up (show a.ld ≤ max 1 a.ld from by omega)
    have i0 : Lk K H (max 1 a.ld) (.str x) (.str x) := Lk.up (n := 1) (by omega) (.flat rfl)
    have i := (Lk.tup h h' (.cons i0 (.cons i1 .nil))).up (show max 1 a.ld + 1 ≤ (Rows.cons x a r).ld from by show _ ≤ max (1 + max 1 a.ld) r.ld; omega)
    have rest := PutRows.like (K := K) hd h2 h2'
    have ru : ∀ {xs ys : List V}, Paired (Lk K H r.ld) xs ys → Paired (Lk K H (Rows.cons x a r).ld) xs ys := by
      intro xs ys p
      induction p with
      | nil => exact .nil
      | cons a _ ih => exact .cons (a.up (by show r.ld ≤ max _ r.ld; omega)) ih
    exact .cons i (ru rest)
end
end
/-! ### putting in, walked -/
def dvOf (kvs : List (Key × V)) : Str → Option V := fun x => valV kvs (.inr x)
def PutAll (H : Hp) (dv : Str → Option V) : List Part → List V → Prop
  | [], vs => vs = []
  | p :: r, vs => ∃ u us, vs = u :: us ∧ PutAt H dv p u ∧ PutAll H dv r us
section
variable {H H' : Hp} {dv : Str → Option V}
theorem PutAll.mono (k : Tk H H') : ∀ {ps : List Part} {vs : List V}, PutAll H dv ps vs → PutAll H' dv ps vs
  | [], vs, h => h
  | p :: r, vs, ⟨u, us, e, h1, h2⟩ => ⟨u, us, e, h1.mono k, PutAll.mono k h2⟩
theorem PutAll.len : ∀ {ps : List Part} {vs : List V}, PutAll H dv ps vs → vs.length = ps.length
  | [], vs, h => by
    have e : vs = [] := h
    rw [e]
    rfl
  | p :: r, vs, ⟨u, us, e, h1, h2⟩ => by
    subst e
    exact congrArg (· + 1) (PutAll.len h2)
/-- a part of the same kind, put in within -/
theorem PutAt.kind {p : Part} (hw : plainWord p.word) (hs : p.word ≠ "shut") {us : List V} {a : Addr} (h : PutAll H dv p.kids us) (ha : H a = some (.tup (.str p.word :: us))) : PutAt H dv p (.ref a) := by
  cases p with
  | one k b =>
    obtain ⟨u, r, rfl, h1, h2⟩ := h
    rw [show r = [] from h2] at ha
    exact ⟨a, u, rfl, ha, h1⟩
  | two k b c =>
    obtain ⟨u, r, rfl, h1, v, r2, rfl, h2, h3⟩ := h
    rw [show r2 = [] from h3] at ha
    exact ⟨a, u, v, rfl, ha, h1, h2⟩
  | whn b c d =>
    obtain ⟨u, r, rfl, h1, v, r2, rfl, h2, x, r3, rfl, h3, h4⟩ := h
    rw [show r3 = [] from h4] at ha
    exact ⟨a, u, v, x, rfl, ha, h1, h2, h3⟩
  | shut a => exact absurd rfl hs
  | num n => exact absurd (show ("number" : Str) ∈ [("number" : Str), "fun", "let", "name"] from by simp) hw
  | name n => exact absurd (show ("name" : Str) ∈ [("number" : Str), "fun", "let", "name"] from by simp) hw
  | fn n => exact absurd (show ("fun" : Str) ∈ [("number" : Str), "fun", "let", "name"] from by simp) hw
  | letp r a => exact absurd (show ("let" : Str) ∈ [("number" : Str), "fun", "let", "name"] from by simp) hw
end
def spPut (m : Nat) : Sp := fun vs H Q _ => ∃ (v : V) (p : Part) (d : Addr) (kvs : List (Key × V)), vs = [v, .ref d] ∧ Tp H v p.data ∧ p.deep ≤ m ∧ p.size ≤ 60 ∧ H d = some (.dK kvs) ∧ ∀ (v' : V) (H' : Hp), PutAt H' (dvOf kvs) p v' → Same H H' → Q v' H'

/-! ### looks: names, numbers, rows, the parts of a part -/
theorem g_chain {r r' : R2} {ta tb tc : TE} {σ : L2.St} {H : Hp} {Q : VK} (h : ta σ H fun x H1 => tb σ H1 fun y H2 => r x y H2 fun z H3 => ∃ k, z = .bl k ∧ (if k = true then tc σ H3 fun w' H4 => r' y w' H4 Q else Q (.bl false) H3)) : tChain r r' ta tb tc σ H Q := h
def abc : Str := "abcdefghijklmnopqrstuvwxyz"
def spIsName : Sp := fun vs H Q _ => ∃ (s : Str), vs = [.str s] ∧ isName s ∧ ∀ H', Same H H' → Q (.bl true) H'
def spIsWhole : Sp := fun vs H Q _ => ∃ (n : Int), vs = [.int n] ∧ ∀ H', Same H H' → Q (.bl true) H'
def spIsRow : Sp := fun vs H Q _ => ∃ (c : Addr) (x : Str) (u : V), vs = [.ref c] ∧ H c = some (.tup [.str x, u]) ∧ isName x ∧ ∀ H', Same H H' → Q (.bl true) H'
def spAreRows : Sp := fun vs H Q _ => ∃ (a : Addr) (xs : List V), vs = [.ref a] ∧ H a = some (.tup xs) ∧ 1 ≤ xs.length ∧ xs.length ≤ 4 ∧ (∀ (i : Nat) v, xs[i]? = some v → ∃ c x u, v = .ref c ∧ H c = some (.tup [.str x, u]) ∧ isName x) ∧ ∀ H', Same H H' → Q (.bl true) H'
def spIsSmall : Sp := fun vs H Q _ => ∃ (n : Int), vs = [.int n] ∧ n.natAbs < 10 ^ 60 ∧ Q (.bl true) H
theorem g_ixKT {K : PySem.W.Frag} {w : World} {H : Hp} {Q : VK} {d : Addr} {z : Str} {v : V} {kvs : List (Str × V)} (T : KTab K w d kvs) (e : (kvs.find? fun q => decide (q.1 = z)).map (·.2) = some v) (q : Q v H) : rIxG K w (.ref d) (.str z) H Q := .inr (.inr ⟨d, z, v, rfl, rfl, e ▸ T z, q⟩)
def spPartsOf : Sp := fun vs H Q _ => ∃ (v : V) (p : Part) (fs sc : List Str), vs = [v] ∧ Tp H v p.data ∧ p.ok fs sc ∧ p.size ≤ 60 ∧ ∀ (l : Addr) (us : List V) (H' : Hp), H l = none → H' l = some (.lst us) → Tps H' us (p.kids.map Part.data) → Same H H' → Q (.ref l) H'
/-! ### looks: bodies -/
def spIsBody : Sp := fun vs H Q _ => ∃ (v : V) (p : Part) (fs sc : List Str), vs = [v] ∧ Tp H v p.data ∧ p.ok fs sc ∧ p.deep ≤ 12 ∧ p.size ≤ 60 ∧ ∀ H', Same H H' → Q (.bl true) H'
def spIsFunction : Sp := fun vs H Q _ => ∃ (v : V) (f : Fn1) (fs : List Str), vs = [v] ∧ Tp H v f.data ∧ f.fine fs ∧ ∀ H', Same H H' → Q (.bl true) H'
def spIsBuilt : Sp := fun vs H Q _ => ∃ (v : V) (P : Prog), vs = [v] ∧ Tp H v P.data ∧ P.fine ∧ ∀ H', Same H H' → Q (.bl true) H'
/-! ### looks: names of rows; unlike ones -/
def nmL : Part → List Str
  | .letp r _ => r.names
  | _ => []
mutual
theorem Part.rn_all : ∀ p : Part, p.all.flatMap nmL = p.rowNames
  | .num _ => rfl
  | .name _ => rfl
  | .fn _ => rfl
  | .shut _ => rfl
  | .one k a => by show (Part.one k a :: a.all).flatMap nmL = a.rowNames; rw [List.flatMap_cons, Part.rn_all a]; rfl
  | .two k a b => by show (Part.two k a b :: (a.all ++ b.all)).flatMap nmL = a.rowNames ++ b.rowNames; rw [List.flatMap_cons, List.flatMap_append, Part.rn_all a, Part.rn_all b]; rfl
  | .whn a b c => by show (Part.whn a b c :: (a.all ++ (b.all ++ c.all))).flatMap nmL = a.rowNames ++ (b.rowNames ++ c.rowNames); rw [List.flatMap_cons, List.flatMap_append, List.flatMap_append, Part.rn_all a, Part.rn_all b, Part.rn_all c]; rfl
  | .letp r a => by show (Part.letp r a :: (r.all ++ a.all)).flatMap nmL = r.names ++ (r.rowNames ++ a.rowNames); rw [List.flatMap_cons, List.flatMap_append, Rows.rn_all r, Part.rn_all a]; rfl
theorem Rows.rn_all : ∀ r : Rows, r.all.flatMap nmL = r.rowNames
  | .nil => rfl
  | .cons x a r => by show (a.all ++ r.all).flatMap nmL = a.rowNames ++ r.rowNames; rw [List.flatMap_append, Part.rn_all a, Rows.rn_all r]
end
mutual
theorem Part.rn_size : ∀ p : Part, p.rowNames.length < p.size
  | .num _ => Nat.lt_succ_self _
  | .name _ => Nat.lt_succ_self _
  | .fn _ => Nat.lt_succ_self _
  | .shut _ => Nat.lt_succ_self _
  | .one k a => by have := Part.rn_size a; show a.rowNames.length < 1 + a.size; omega
  | .two k a b => by have := Part.rn_size a; have := Part.rn_size b; show (a.rowNames ++ b.rowNames).length < 1 + (a.size + b.size); rw [List.length_append]; omega
  | .whn a b c => by have := Part.rn_size a; have := Part.rn_size b; have := Part.rn_size c; show (a.rowNames ++ (b.rowNames ++ c.rowNames)).length < 1 + (a.size + (b.size + c.size)); rw [List.length_append, List.length_append]; omega
  | .letp r a => by have := Rows.rn_size r; have := Part.rn_size a; show (r.names ++ (r.rowNames ++ a.rowNames)).length < 1 + (r.size + a.size); rw [List.length_append, List.length_append]; omega
theorem Rows.rn_size : ∀ r : Rows, r.names.length + r.rowNames.length ≤ r.size
  | .nil => Nat.le_refl _
  | .cons x a r => by have := Part.rn_size a; have := Rows.rn_size r; show r.names.length + 1 + (a.rowNames ++ r.rowNames).length ≤ a.size + r.size; rw [List.length_append]; omega
end
theorem flat_take {ps : List Part} (i : Nat) : ((ps.take i).flatMap nmL).length ≤ (ps.flatMap nmL).length := by
  have h : ps.flatMap nmL = (ps.take i).flatMap nmL ++ (ps.drop i).flatMap nmL := by rw [← List.flatMap_append, List.take_append_drop]
  rw [h, List.length_append]
  omega
theorem nmL_no {p : Part} (h : p.word ≠ "let") : nmL p = [] := by
  cases p with
  | letp r a => exact absurd rfl h
  | _ => rfl
theorem word_let {p : Part} (h : p.word = "let") : ∃ r a, p = .letp r a := by
  cases p with
  | letp r a => exact ⟨r, a, rfl⟩
  | two k a b => cases k <;> exact absurd h (by simp only [Part.word, K1.word, K2.word]; decide)
  | one k a => cases k <;> exact absurd h (by simp only [Part.word, K1.word, K2.word]; decide)
  | _ => exact absurd h (by simp only [Part.word, K1.word, K2.word]; decide)
def spRowNames : Sp := fun vs H Q _ => ∃ (v : V) (p : Part), vs = [v] ∧ Tp H v p.data ∧ p.good ∧ p.size ≤ 60 ∧ ∀ (l : Addr) (H' : Hp), H l = none → H' l = some (.lst (p.rowNames.map V.str)) → Same H H' → Q (.ref l) H'
theorem pure_rownames {K : PySem.W.Frag} {w : World} : PureOk 1 spRowNames (t_row_names K w spOrder) 5 := by
  refine ⟨fun vs H Q E ⟨_, _, e, _⟩ => by rw [e]; rfl, ?_⟩
  rintro vs H Q E ⟨v, p, rfl, t, hg, hz, q⟩
  show t_row_names K w _ _ [some v, none, none, none, none] H
  unfold t_row_names
  have hrn := p.rn_all
  have hrs := p.rn_size
  have hfl : (p.all.flatMap nmL).length = p.rowNames.length := by rw [hrn]
  walk_at "gg"
  rename_i fl H1 n1 e1 s1
  refine g_seqL ?_
  walk_at "gg"
  refine ⟨v, p, rfl, t.mono (Same.tk s1), hg, hz, fun l us H2 nl el tl s2 => ?_⟩
  have e2 := s2 _ _ e1
  walk_at "gg"
  have hne : l ≠ fl := (ne_of_none e1 nl).symm
  have hul : us.length = p.all.length := by rw [tl.length, List.length_map]
  refine for_L (xs := us) (fun i σ H' => ∃ x2 x3 x4, σ = [some v, some (.ref fl), x2, x3, x4] ∧ H' fl = some (.lst (((p.all.take i).flatMap nmL).map V.str)) ∧ Chg fl H2 H') (fun i σ H' ⟨_, _, _, _, _, c⟩ => c _ _ hne el) ⟨_, _, _, rfl, e2, Chg.refl⟩ ?_ ?_
  · rintro i x σ H3 hx ⟨x2, x3, x4, rfl, e3, c3⟩
    obtain ⟨d, hd, tx⟩ := tl.get hx
    rw [List.getElem?_map] at hd
    obtain ⟨p1, hp1, rfl⟩ := Option.map_eq_some_iff.mp hd
    have k23 : Tk H2 H3 := c3.tkl e2
    have tx3 := tx.mono k23
    have hft := flat_take (ps := p.all) i
    have htk : (p.all.take (i + 1)).flatMap nmL = (p.all.take i).flatMap nmL ++ nmL p1 := by
      rw [List.take_add_one, hp1, List.flatMap_append]
      show _ ++ (nmL p1 ++ []) = _
      rw [List.append_nil]
    have hft1 := flat_take (ps := p.all) (i + 1)
    rw [htk, List.length_append] at hft1
    obtain ⟨a, xs, rfl, ea, txs⟩ := tx3.part
    walk_at "gg"
    by_cases hw : p1.word = "let"
    · refine g_T (decide_eq_true hw) ?_
      obtain ⟨r, b, rfl⟩ := word_let hw
      obtain ⟨x5, r5, rfl, t5, tr5⟩ := Tps.cons_inv (show Tps H3 xs [.tuple r.datas, b.data] from txs)
      obtain ⟨x6, r6, rfl, t6, tr6⟩ := tr5.cons_inv
      rw [tr6.nil_inv] at ea
      have ea' : H3 a = some (.tup [.str "let", x5, x6]) := ea
      obtain ⟨ra, rs, rfl, er, tr⟩ := t5.tup_inv
      have hrl : rs.length = r.names.length := by rw [tr.length, r.len, Rows.list_names, Rows.list_parts, List.length_map, List.length_map]
      have hnl : (nmL (.letp r b)).length = r.names.length := rfl
      clear ea txs tr5 tr6
      walk_at "gg"
      refine g_seqT ?_
      walk_at "gg"
      refine lc_mapT er (by omega) (fun i y H' => ∃ nm, r.names[i]? = some nm ∧ y = .str nm) (fun i y H H' k h => h) ?_ ?_
      · intro j y H' Nx hy s hN
        obtain ⟨d, hd, ty⟩ := tr.get hy
        obtain ⟨nm, p2, hnm, hp2, rfl⟩ := Rows.get hd
        obtain ⟨a2, u1, u2, rfl, ea2, tn, tp⟩ := ty.two
        rw [tn.str_inv] at ea2
        walk_at "gg"
        refine ⟨rfl, ?_⟩
        walk_at "gg"
        exact hN _ _ (.refl _) ⟨nm, hnm, rfl⟩
      · intro D ys H4 nD eD hys hF s4
        have hys2 : ys = r.names.map V.str := by
          refine List.ext_getElem? fun i => ?_
          cases e : ys[i]? with
          | none =>
            rw [List.getElem?_eq_none_iff] at e
            rw [List.getElem?_eq_none (by rw [List.length_map]; omega)]
          | some y =>
            obtain ⟨nm, hq, rfl⟩ := hF i y e
            rw [List.getElem?_map, hq]
            rfl
        subst hys2
        have e34 := s4 _ _ e3
        walk_at "gg"
        refine g_extend e34 eD (by rw [List.length_map, List.length_map]; show _ ≤ 16777216; omega) ?_
        walk_at "gg"
        rename_i H5 e5 c5
        refine ⟨_, _, _, rfl, ?_, c3.trans ((Chg.same s4).trans c5)⟩
        rw [htk, List.map_append]
        exact e5
    · refine g_F (decide_eq_false hw) ?_
      walk_at "gg"
      exact ⟨_, _, _, rfl, by rw [htk, nmL_no hw, List.append_nil]; exact e3, c3⟩
  · rintro σ H3 ⟨x2, x3, x4, rfl, e3, c3⟩
    rw [hul, List.take_length, hrn] at e3
    walk_at "gg"
    exact q fl H3 n1 e3 (Same.chg (s1.trans s2) n1 c3)
def spUnlike : Sp := fun vs H Q _ => ∃ (l : Addr) (ns : List Str), vs = [.ref l] ∧ H l = some (.lst (ns.map V.str)) ∧ ns.Nodup ∧ ns.length ≤ 1000 ∧ ∀ H', Same H H' → Q .non H'

/-! ### looks: names known; a program looked at -/
def spNamed (m : Nat) : Sp := fun vs H Q _ => ∃ (v : V) (kl fl : Addr) (p : Part) (fs sc : List Str), vs = [v, .ref kl, .ref fl] ∧ Tp H v p.data ∧ p.ok fs sc ∧ p.deep ≤ m ∧ p.size ≤ 60 ∧ H kl = some (.lst (sc.map V.str)) ∧ H fl = some (.lst (fs.map V.str)) ∧ sc.length + 4 * m ≤ 100 ∧ ∀ H', Same H H' → Q .non H'
theorem PARTS_in {p : Part} (hw : plainWord p.word) (hs : p.word ≠ "shut") : (PARTSkvs.find? fun q => decide (q.1 = p.word)).isSome = true := by
  cases p with
  | one k a => cases k <;> rfl
  | two k a b => cases k <;> rfl
  | whn a b c => rfl
  | shut a => exact absurd rfl hs
  | num n => exact absurd (show ("number" : Str) ∈ [("number" : Str), "fun", "let", "name"] from by simp) hw
  | name n => exact absurd (show ("name" : Str) ∈ [("number" : Str), "fun", "let", "name"] from by simp) hw
  | fn n => exact absurd (show ("fun" : Str) ∈ [("number" : Str), "fun", "let", "name"] from by simp) hw
  | letp r a => exact absurd (show ("let" : Str) ∈ [("number" : Str), "fun", "let", "name"] from by simp) hw
def spLooked : Sp := fun vs H Q _ => ∃ (v : V) (P : Prog), vs = [v] ∧ Tp H v P.data ∧ P.fine ∧ ∀ H', Same H H' → Q v H'

/-! ### programs' words -/
def numS (n : Int) : Str := Str.ofString (toString n)
theorem numS_len {n : Int} (h : n.natAbs < 10 ^ 60) : (numS n).length ≤ 61 := by
  unfold numS
  cases n with
  | ofNat m =>
    have h1 : (Int.ofNat m) < 10 ^ 60 := by
      have : (Int.ofNat m).natAbs = m := rfl
      show (m : Int) < 10 ^ 60
      omega
    have := PyProof.Rows.toString_length_le (v := Int.ofNat m) (Int.natCast_nonneg m) (k := 60) (by decide) h1
    omega
  | negSucc m =>
    have h1 : ((m + 1 : Nat) : Int) < 10 ^ 60 := by
      have : (Int.negSucc m).natAbs = m + 1 := rfl
      omega
    have h2 := PyProof.Rows.toString_length_le (v := ((m + 1 : Nat) : Int)) (Int.natCast_nonneg _) (k := 60) (by decide) h1
    rw [PyProof.Rows.ofString_length] at h2 ⊢
    have h3 : toString (Int.negSucc m) = "-" ++ toString ((m + 1 : Nat) : Int) := rfl
    rw [h3, String.toList_append, List.length_append]
    have : ("-" : String).toList.length = 1 := by decide
    omega
mutual
def Part.words : Part → List Str
  | .num n => [numS n]
  | .name x => ["." ++ x]
  | .fn f => [":" ++ f]
  | .one k a => k.word :: a.words
  | .two k a b => k.word :: (a.words ++ b.words)
  | .whn a b c => "when" :: (a.words ++ (b.words ++ c.words))
  | .letp r a => "let" :: numS r.parts.length :: (r.words ++ a.words)
  | .shut _ => []
def Rows.words : Rows → List Str
  | .nil => []
  | .cons x a r => ("." ++ x) :: (a.words ++ r.words)
end
def rwords (q : Str × Part) : List Str := ("." ++ q.1) :: q.2.words
theorem Str.lenCat (a b : Str) : (a ++ b).length = a.length + b.length := by
  have h1 : a = SX.S a.cps.toList := (SX.S_tl a).symm
  have h2 : b = SX.S b.cps.toList := (SX.S_tl b).symm
  rw [h1, h2, SX.S_cat, SX.S_len, SX.S_len, SX.S_len, List.length_append]
theorem K1.word_len : ∀ k : K1, k.word.length ≤ 6 := by intro k; cases k <;> decide
theorem K2.word_len : ∀ k : K2, k.word.length ≤ 6 := by intro k; cases k <;> decide
mutual
theorem Part.words_ok {fs : List Str} : ∀ {p : Part} {sc : List Str}, p.ok fs sc → p.words.length + 1 ≤ 3 * p.size ∧ (∀ w ∈ p.words, w.length ≤ 61) ∧ p.words ≠ []
  | .num n, sc, h => ⟨by show 2 ≤ 3; decide, fun w hw => by rw [List.mem_singleton.mp hw]; exact numS_len h, by simp [Part.words]⟩
  | .name x, sc, h => ⟨by show 2 ≤ 3; decide, fun w hw => by
      rw [List.mem_singleton.mp hw, Str.lenCat]
      have := h.2.2.1
      have : ("." : Str).length = 1 := by decide
      omega, by simp [Part.words]⟩
  | .fn x, sc, h => ⟨by show 2 ≤ 3; decide, fun w hw => by
      rw [List.mem_singleton.mp hw, Str.lenCat]
      have := h.2.2.1
      have : (":" : Str).length = 1 := by decide
      omega, by simp [Part.words]⟩
  | .one k a, sc, h => by
    obtain ⟨h1, h2, _⟩ := Part.words_ok (p := a) h
    refine ⟨?_, fun w hw => ?_, by simp [Part.words]⟩
    · show a.words.length + 1 + 1 ≤ 3 * (1 + a.size)
      omega
    · rcases List.mem_cons.mp hw with rfl | hw
      · have := k.word_len; omega
      · exact h2 w hw
  | .two k a b, sc, h => by
    obtain ⟨h1, h2, _⟩ := Part.words_ok (p := a) h.1
    obtain ⟨h3, h4, _⟩ := Part.words_ok (p := b) h.2
    refine ⟨?_, fun w hw => ?_, by simp [Part.words]⟩
    · show (a.words ++ b.words).length + 1 + 1 ≤ 3 * (1 + (a.size + b.size))
      rw [List.length_append]
      omega
    · rcases List.mem_cons.mp hw with rfl | hw
      · have := k.word_len; omega
      · rcases List.mem_append.mp hw with hw | hw
        · exact h2 w hw
        · exact h4 w hw
  | .whn a b c, sc, h => by
    obtain ⟨h1, h2, _⟩ := Part.words_ok (p := a) h.1
    obtain ⟨h3, h4, _⟩ := Part.words_ok (p := b) h.2.1
    obtain ⟨h5, h6, _⟩ := Part.words_ok (p := c) h.2.2
    refine ⟨?_, fun w hw => ?_, by simp [Part.words]⟩
    · show (a.words ++ (b.words ++ c.words)).length + 1 + 1 ≤ 3 * (1 + (a.size + (b.size + c.size)))
      rw [List.length_append, List.length_append]
      omega
    · rcases List.mem_cons.mp hw with rfl | hw
      · decide
      · rcases List.mem_append.mp hw with hw | hw
        · exact h2 w hw
        · rcases List.mem_append.mp hw with hw | hw
          · exact h4 w hw
          · exact h6 w hw
  | .letp r a, sc, h => by
    obtain ⟨h1, h2, _⟩ := Part.words_ok (p := a) h.2.2.2.2
    obtain ⟨h3, h4⟩ := Rows.words_ok (r := r) h.2.2.2.1 h.2.2.1
    have hr : r.parts.length ≤ 4 := by
      have := h.1
      rw [Rows.list_names, List.length_map] at this
      rw [Rows.list_parts, List.length_map]
      exact this
    refine ⟨?_, fun w hw => ?_, by simp [Part.words]⟩
    · show (r.words ++ a.words).length + 1 + 1 + 1 ≤ 3 * (1 + (r.size + a.size))
      rw [List.length_append]
      omega
    · rcases List.mem_cons.mp hw with rfl | hw
      · decide
      · rcases List.mem_cons.mp hw with rfl | hw
        · exact numS_len (by show r.parts.length < 10 ^ 60; omega)
        · rcases List.mem_append.mp hw with hw | hw
          · exact h4 w hw
          · exact h2 w hw
  | .shut a, sc, h => h.elim
theorem Rows.words_ok {fs : List Str} : ∀ {r : Rows} {sc : List Str}, r.ok fs sc → (∀ x ∈ r.names, isName x) → r.words.length ≤ 3 * r.size ∧ (∀ w ∈ r.words, w.length ≤ 61)
  | .nil, sc, h, _ => ⟨Nat.zero_le _, fun w hw => absurd hw (by simp [Rows.words])⟩
  | .cons x a r, sc, h, hn => by
    obtain ⟨h1, h2, _⟩ := Part.words_ok (p := a) h.1
    obtain ⟨h3, h4⟩ := Rows.words_ok (r := r) h.2 fun y hy => hn y (List.mem_cons_of_mem _ hy)
    refine ⟨?_, fun w hw => ?_⟩
    · show (a.words ++ r.words).length + 1 ≤ 3 * (a.size + r.size)
      rw [List.length_append]
      omega
    · rcases List.mem_cons.mp hw with rfl | hw
      · rw [Str.lenCat]
        have := (hn x (by show x ∈ x :: r.names; simp)).2.1
        have : ("." : Str).length = 1 := by decide
        omega
      · rcases List.mem_append.mp hw with hw | hw
        · exact h2 w hw
        · exact h4 w hw
end
theorem good_words {p : Part} (h : p.good) (hz : p.size ≤ 60) : p.words.length ≤ 180 ∧ (∀ w ∈ p.words, w.length ≤ 61) ∧ p.words ≠ [] := by
  obtain ⟨⟨fs, sc, h1⟩, _⟩ := h
  obtain ⟨a, b, c⟩ := Part.words_ok h1
  exact ⟨by omega, b, c⟩
theorem sum_len {k : Nat} : ∀ {l : List Str}, (∀ w ∈ l, w.length ≤ k) → (l.map (·.length)).sum ≤ k * l.length
  | [], _ => Nat.zero_le _
  | w :: l, h => by
    have h1 := h w (by simp)
    have h2 := sum_len fun z hz => h z (List.mem_cons_of_mem _ hz)
    rw [List.map_cons, List.sum_cons, List.length_cons, Nat.mul_succ]
    omega
theorem join_tl (y : Str) (parts : List Str) : (Txt.join y parts).cps.toList = TL.joinL y.cps.toList (parts.map fun s => s.cps.toList) := by
  have h1 : y = SX.S y.cps.toList := (SX.S_tl y).symm
  have h2 : parts = (parts.map fun s => s.cps.toList).map SX.S := by
    rw [List.map_map]
    have : (SX.S ∘ fun s : Str => s.cps.toList) = id := funext fun s => SX.S_tl s
    rw [this, List.map_id]
  conv => lhs; rw [h1, h2, SX.join_S]
theorem joinL_len (s : List Nat) : ∀ ps : List (List Nat), (TL.joinL s ps).length ≤ (ps.map (·.length)).sum + ps.length * s.length
  | [] => Nat.zero_le _
  | [p] => by simp [TL.joinL]
  | p :: q :: r => by
    have ih := joinL_len s (q :: r)
    show (p ++ (s ++ TL.joinL s (q :: r))).length ≤ _
    rw [List.length_append, List.length_append, List.map_cons, List.sum_cons, List.length_cons, Nat.succ_mul]
    omega
theorem join_len {k : Nat} {y : Str} {l : List Str} (h : ∀ w ∈ l, w.length ≤ k) : (Txt.join y l).length ≤ (k + y.length) * l.length := by
  have h1 : (Txt.join y l).length = (Txt.join y l).cps.toList.length := by simp [Str.length]
  rw [h1, join_tl]
  have h2 := joinL_len y.cps.toList (l.map fun s => s.cps.toList)
  have h3 := sum_len h
  rw [List.map_map, List.length_map] at h2
  have h4 : ((fun x : List Nat => x.length) ∘ fun s : Str => s.cps.toList) = fun s : Str => s.length := funext fun s => by simp [Str.length]
  rw [h4] at h2
  have h5 : y.cps.toList.length = y.length := by simp [Str.length]
  rw [h5] at h2
  rw [Nat.add_mul, Nat.mul_comm y.length l.length]
  omega
theorem g_strI {i : Int} {H : Hp} {Q : VK} (h : i.natAbs.log2 < 1920) (q : Q (.str (numS i)) H) : rStrG [.int i] H Q := ⟨i, rfl, h, q⟩
theorem g_join {K : PySem.W.Frag} {a : Str} {p : Addr} {ys : List Str} {H : Hp} {Q : VK} (h : SqL K H p (ys.map V.str)) {k m : Nat} (h1 : ∀ w ∈ ys, w.length ≤ k) (h2 : ys.length ≤ m) (h3 : k * m + m * a.length ≤ 16777216) (q : Q (.str (Txt.join a ys)) H) : rJoinG K (.str a) [.ref p] H Q :=
  ⟨a, p, ys, rfl, rfl, .inl h, by
    have h4 := sum_len h1
    have h5 : k * ys.length ≤ k * m := Nat.mul_le_mul_left k h2
    have h6 : ys.length * a.length ≤ m * a.length := Nat.mul_le_mul_right _ h2
    omega, q⟩

/-! ### words -/
def spWords (m : Nat) : Sp := fun vs H Q _ => ∃ (v : V) (p : Part), vs = [v] ∧ Tp H v p.data ∧ p.good ∧ p.size ≤ 60 ∧ p.deep ≤ m ∧ ∀ (l : Addr) (H' : Hp), H' l = some (.lst (p.words.map V.str)) → Same H H' → Q (.ref l) H'
theorem Part.good.num {n : Int} (h : (Part.num n).good) : n.natAbs < 10 ^ 60 := by
  obtain ⟨⟨fs, sc, h⟩, _⟩ := h
  exact h
theorem Part.good.name {x : Str} (h : (Part.name x).good) : isName x := by
  obtain ⟨⟨fs, sc, h⟩, _⟩ := h
  exact h.2
theorem Part.good.fn {x : Str} (h : (Part.fn x).good) : isName x := by
  obtain ⟨⟨fs, sc, h⟩, _⟩ := h
  exact h.2
theorem Part.good.rows {r : Rows} {a : Part} (h : (Part.letp r a).good) (hz : (Part.letp r a).size ≤ 60) : r.list.length ≤ 4 ∧ (∀ q ∈ r.list, isName q.1 ∧ q.2.good ∧ q.2.size ≤ 60 ∧ q.2.deep + 1 ≤ (Part.letp r a).deep) ∧ a.good ∧ a.size ≤ 60 ∧ a.deep + 1 ≤ (Part.letp r a).deep := by
  have hk := h.kids
  have hsz := (Part.letp r a).sz_kids
  have hmx := (Part.letp r a).mxd_kids
  obtain ⟨⟨fs, sc, h1, _, h3, _⟩, _⟩ := h
  rw [Rows.list_names, List.length_map] at h1
  have hka : a ∈ (Part.letp r a).kids := by show a ∈ r.parts ++ [a]; simp
  have m1 := sz_mem hka
  have m2 := mxd_mem hka
  refine ⟨h1, fun q hq => ?_, hk a hka, by omega, by omega⟩
  have hq2 : q.2 ∈ (Part.letp r a).kids := by
    show q.2 ∈ r.parts ++ [a]
    rw [Rows.list_parts]
    exact List.mem_append.mpr (.inl (List.mem_map.mpr ⟨q, hq, rfl⟩))
  have m3 := sz_mem hq2
  have m4 := mxd_mem hq2
  exact ⟨h3 q.1 (by rw [Rows.list_names]; exact List.mem_map.mpr ⟨q, hq, rfl⟩), hk q.2 hq2, by omega, by omega⟩
/-! ### texts -/
def spText : Sp := fun vs H Q _ => ∃ (v : V) (p : Part), vs = [v] ∧ Tp H v p.data ∧ p.good ∧ p.size ≤ 60 ∧ ∀ (H' : Hp), Same H H' → Q (.str (Txt.join " " p.words)) H'
def dots (ts : List Str) : List Str := ts.map fun x => "." ++ x
def Fn1.words (f : Fn1) : List Str := f.name :: (dots f.things ++ (("=" : Str) :: f.body.words))
def Prog.wrows (P : Prog) : List (List Str) := P.fs.map Fn1.words ++ [("?" : Str) :: P.asked.words]
def Prog.text (P : Prog) : Str := Txt.join "\n" (P.wrows.map (Txt.join " "))
theorem dot_len {x : Str} (h : isName x) : (("." : Str) ++ x).length ≤ 9 := by
  rw [Str.lenCat]
  have := h.2.1
  have : ("." : Str).length = 1 := by decide
  omega
theorem Fn1.words_ok {fs : List Str} {f : Fn1} (h : f.fine fs) : f.words.length ≤ 190 ∧ ∀ w ∈ f.words, w.length ≤ 61 := by
  obtain ⟨w1, w2, _⟩ := good_words h.body.good h.body.size
  have hf := h.few
  refine ⟨?_, fun w hw => ?_⟩
  · show (dots f.things ++ (("=" : Str) :: f.body.words)).length + 1 ≤ 190
    unfold dots
    rw [List.length_append, List.length_map, List.length_cons]
    omega
  · rcases List.mem_cons.mp hw with rfl | hw
    · have := h.nm.2.1; omega
    · rcases List.mem_append.mp hw with hw | hw
      · obtain ⟨x, hx, rfl⟩ := List.mem_map.mp hw
        have := dot_len (h.th x hx)
        omega
      · rcases List.mem_cons.mp hw with rfl | hw
        · decide
        · exact w2 w hw
theorem join_small {ws : List Str} (h1 : ws.length ≤ 190) (h2 : ∀ w ∈ ws, w.length ≤ 61) : (Txt.join " " ws).length ≤ 11780 := by
  have := join_len (y := " ") h2
  have h3 : (" " : Str).length = 1 := by decide
  rw [h3] at this
  omega
def spFText : Sp := fun vs H Q _ => ∃ (v : V) (fs : List Str) (f : Fn1), vs = [v] ∧ Tp H v f.data ∧ f.fine fs ∧ ∀ (H' : Hp), Same H H' → Q (.str (Txt.join " " f.words)) H'
theorem Prog.fine.rows {P : Prog} (h : P.fine) : P.wrows.length ≤ 9 ∧ ∀ r ∈ P.wrows, r.length ≤ 190 ∧ ∀ w ∈ r, w.length ≤ 61 := by
  have hfew := h.few
  refine ⟨?_, fun r hr => ?_⟩
  · show (P.fs.map Fn1.words ++ [_]).length ≤ 9
    rw [List.length_append, List.length_map, List.length_singleton]
    omega
  · rcases List.mem_append.mp hr with hr | hr
    · obtain ⟨f, hf, rfl⟩ := List.mem_map.mp hr
      exact Fn1.words_ok (h.fs f hf)
    · rw [List.mem_singleton.mp hr]
      obtain ⟨w1, w2, _⟩ := good_words h.asked.good h.asked.size
      refine ⟨by rw [List.length_cons]; omega, fun w hw => ?_⟩
      rcases List.mem_cons.mp hw with rfl | hw
      · decide
      · exact w2 w hw
theorem Prog.fine.joined {P : Prog} (h : P.fine) : ∀ s ∈ P.wrows.map (Txt.join " "), s.length ≤ 11780 := by
  intro s hs
  obtain ⟨r, hr, rfl⟩ := List.mem_map.mp hs
  obtain ⟨h1, h2⟩ := h.rows.2 r hr
  exact join_small h1 h2
def spWritten : Sp := fun vs H Q _ => ∃ (v : V) (P : Prog), vs = [v] ∧ Tp H v P.data ∧ P.fine ∧ ∀ (H' : Hp), Same H H' → Q (.str P.text) H'
/-! ### rows of words -/
/-- a list of lists of words -/
def RowsAt (H : Hp) (us : List V) (rs : List (List Str)) : Prop := us.length = rs.length ∧ ∀ (i : Nat) (r : List Str), rs[i]? = some r → ∃ l, us[i]? = some (.ref l) ∧ H l = some (.lst (r.map V.str))
def spLRows : Sp := fun vs H Q _ => ∃ (v : V) (P : Prog), vs = [v] ∧ Tp H v P.data ∧ P.fine ∧ ∀ (l : Addr) (us : List V) (H' : Hp), H' l = some (.lst us) → RowsAt H' us P.wrows → Same H H' → Q (.ref l) H'
theorem RowsAt.mono {H H' : Hp} {us : List V} {rs : List (List Str)} (h : RowsAt H us rs) (s : Same H H') : RowsAt H' us rs := ⟨h.1, fun i r hi => by
  obtain ⟨l, h1, h2⟩ := h.2 i r hi
  exact ⟨l, h1, s _ _ h2⟩⟩
def spLText : Sp := fun vs H Q _ => ∃ (l : Addr) (us : List V) (rs : List (List Str)), vs = [.ref l] ∧ H l = some (.lst us) ∧ RowsAt H us rs ∧ rs.length ≤ 9 ∧ (∀ r ∈ rs, r.length ≤ 190 ∧ ∀ w ∈ r, w.length ≤ 61) ∧ ∀ (H' : Hp), Same H H' → Q (.str (Txt.join "\n" (rs.map (Txt.join " ")))) H'
theorem SqL.to {K : PySem.W.Frag} {H H' : Hp} {a : Addr} {xs : List V} (s : Same H H') (h : SqL K H a xs) : SqL K H' a xs := h.elim (fun h => .inl (h.elim (fun h => .inl (s _ _ h)) fun ⟨o, h⟩ => .inr ⟨o, s _ _ h⟩)) .inr

/-! ### reading: words looked at, whatever they are -/
theorem tlS {s : Str} : SX.S s.cps.toList = s := SX.S_tl s
instance {s : Str} : Decidable (isName s) := by unfold isName; infer_instance
def digc (c : Nat) : Bool := decide (48 ≤ c) && decide (c ≤ 57)
def figs (s : Str) : List Nat := if s.cps.toList.take 1 = [45] then s.cps.toList.drop 1 else s.cps.toList
def isFigs (s : Str) : Bool := (decide (1 ≤ (figs s).length) && (decide ((figs s).length ≤ 60) && (figs s).all digc)) && (decide (s = "0") || !decide ((figs s)[0]? = some 48))
def isMark (s m : Str) : Bool := decide (SX.S (s.cps.toList.take 1) = m) && decide (isName (SX.S (s.cps.toList.drop 1)))
/-- a test of each sign of a text -/
theorem lc_signs {K : PySem.W.Frag} {g : TG} {te : TE} {vs : List Nat} {σ : L2.St} {H1 : Hp} {cs : List Nat} {f : Nat → Bool} {J : It} {Qd : Addr → Hp → Prop} (hJ1 : ∀ i H', i < cs.length → Same H1 H' → J.go i H') (hJ2 : ∀ H', Same H1 H' → J.stop cs.length H') (hl : cs.length ≤ 100000)
    (hs : ∀ (i : Nat) c x H' H'' (Nx : V → Hp → Prop), cs[i]? = some c → Same H1 H' → J.yld i H' x H'' → (∀ H4, Same H' H4 → Nx (.bl (f c)) H4) → g x (wipe σ vs) H'' fun σ2 H2 => wipe σ2 vs = wipe σ vs ∧ te σ2 H2 Nx)
    (hd : ∀ D H', Fr H1 D → H' D = some (.lst ((cs.map f).map V.bl)) → Same H1 H' → Qd D H') : LcR J g tYes te vs σ H1 Qd := by
  intro D hD
  refine lc_any cs.length (fun i acc H' => acc = ((cs.take i).map f).map V.bl ∧ Same H1 H') hD (fun H' _ s => ⟨by simp, s⟩) (fun i acc H' hi ⟨_, s⟩ => hJ1 i H' hi s) (fun acc H' ⟨_, s⟩ => hJ2 H' s) ?_ ?_
  · rintro i v acc H2 H' hi hla ⟨hacc, s2⟩ hd2 hy
    refine hs i cs[i] v _ _ _ (List.getElem?_eq_getElem hi) s2 hy fun H4 s4 => ?_
    refine lc_step (s4 _ _ hd2) hla (by show _ < 16777216; omega) fun H5 e5 c5 => ?_
    refine ⟨?_, Same.chg (s2.trans s4) hD c5⟩
    rw [hacc, List.take_add_one, List.getElem?_eq_getElem hi, Option.toList, List.map_append, List.map_append]
    rfl
  · rintro acc H' hd2 ⟨rfl, s⟩
    rw [List.take_length] at hd2
    exact hd D H' hD hd2 s
theorem all_map {cs : List Nat} {f : Nat → Bool} : (cs.map f).all id = cs.all f := by rw [List.all_map]; rfl
def alphc (c : Nat) : Bool := decide (97 ≤ c) && decide (c ≤ 122)
theorem alph_in (c : Nat) : (!(Builtin.Str.occurrences abc ⟨#[c]⟩ 0 abc.length 1).isEmpty) = alphc c := by
  rw [PySem.StrLaws.found_one]
  have key : ∀ l : List Nat, l = (List.range 26).map (97 + ·) → decide (c ∈ l) = alphc c := by
    intro l hl
    subst hl
    unfold alphc
    rw [← Bool.decide_and]
    refine decide_eq_decide.mpr ?_
    simp only [List.mem_map, List.mem_range]
    constructor
    · rintro ⟨k, h1, rfl⟩; omega
    · rintro ⟨h1, h2⟩; exact ⟨c - 97, by omega, by omega⟩
  exact key _ (by decide)
def figsText : Str := "0123456789"
theorem dig_in (c : Nat) : (!(Builtin.Str.occurrences figsText ⟨#[c]⟩ 0 figsText.length 1).isEmpty) = digc c := by
  rw [PySem.StrLaws.found_one]
  have key : ∀ l : List Nat, l = (List.range 10).map (48 + ·) → decide (c ∈ l) = digc c := by
    intro l hl
    subst hl
    unfold digc
    rw [← Bool.decide_and]
    refine decide_eq_decide.mpr ?_
    simp only [List.mem_map, List.mem_range]
    constructor
    · rintro ⟨k, h1, rfl⟩; omega
    · rintro ⟨h1, h2⟩; exact ⟨c - 48, by omega, by omega⟩
  exact key _ (by decide)
def spIsNameG : Sp := fun vs H Q _ => ∃ (s : Str), vs = [.str s] ∧ s.length ≤ 16777216 ∧ ∀ H', Same H H' → Q (.bl (decide (isName s))) H'
theorem pure_isnameG {K : PySem.W.Frag} {w : World} : PureOk 1 spIsNameG (t_is_name K w) 2 := by
  refine ⟨fun vs H Q E ⟨_, e, _⟩ => by rw [e]; rfl, ?_⟩
  rintro vs H Q E ⟨s, rfl, hl, q⟩
  show t_is_name K w _ [some (.str s), none] H
  unfold t_is_name
  walk_at "gg"
  refine g_isi (r := true) (.str s) (by decide +kernel) ?_
  walk_at "gg"
  refine g_chain ?_
  walk_at "gg"
  refine g_lenS hl ?_
  walk_at "gg"
  have hfin : ∀ (b : Bool), b = decide (isName s) → ∀ H', Same H H' → Q (.bl b) H' := fun b e H' s' => e ▸ q H' s'
  by_cases h1 : (1 : Int) ≤ (s.length : Int)
  · refine g_T (decide_eq_true h1) ?_
    walk_at "gg"
    by_cases h2 : (s.length : Int) ≤ 8
    · refine g_F (by rw [decide_eq_true h2]; rfl) ?_
      walk_at "gg"
      refine g_seqS ?_
      walk_at "gg"
      have hsz : s.cps.toList.length = s.length := by simp [Str.length]
      refine lc_signs (K := K) (cs := s.cps.toList) (f := alphc) (fun i H' hi _ => by show i < s.cps.size; rw [← Array.length_toList]; exact hi) (fun H' _ => by show s.cps.size ≤ _; rw [← Array.length_toList]; exact Nat.le_refl _) (by omega) ?_ ?_
      · rintro i c x H' H'' Nx hc s1 ⟨rfl, c', hc', rfl⟩ hN
        walk_at "gg"
        refine ⟨rfl, ?_⟩
        walk_at "gg"
        have e : c' = c := by
          rw [Array.getElem?_toList] at hc
          exact Option.some.inj (hc'.symm.trans hc)
        subst e
        refine .inr (.inl ⟨_, abc, rfl, rfl, ?_⟩)
        show Nx (.bl (!(Builtin.Str.occurrences abc ⟨#[c']⟩ 0 abc.length 1).isEmpty)) _
        rw [alph_in]
        exact hN _ (.refl _)
      · intro D H' nD eD s1
        walk_at "gg"
        refine ⟨D, _, rfl, SqL.of eD, ?_⟩
        rw [all_map]
        refine hfin _ ?_ H' s1
        rw [Bool.eq_iff_iff, List.all_eq_true, decide_eq_true_iff]
        unfold alphc isName
        constructor
        · intro h
          exact ⟨by omega, by omega, fun c hc => by have := h c hc; simp only [Bool.and_eq_true, decide_eq_true_iff] at this; omega⟩
        · rintro ⟨_, _, h⟩ c hc
          have := h c hc
          simp only [Bool.and_eq_true, decide_eq_true_iff]; omega
    · refine g_T (by rw [decide_eq_false h2]; rfl) ?_
      walk_at "gg"
      exact hfin _ (by rw [decide_eq_false]; unfold isName; omega) H (.refl _)
  · refine g_F (decide_eq_false h1) ?_
    walk_at "gg"
    exact hfin _ (by rw [decide_eq_false]; unfold isName; omega) H (.refl _)
theorem cut1 (s : Str) : cutS s none (some 1) = SX.S (s.cps.toList.take 1) := by
  cases h : s.cps.toList with
  | nil =>
    have e : s = SX.S [] := by rw [← h, tlS]
    rw [e]; decide +kernel
  | cons c cs =>
    have e : s = SX.S (c :: cs) := by rw [← h, tlS]
    have := cutS_to (c :: cs) 1 (by simp)
    rw [e]; exact this
theorem cut2 (s : Str) : cutS s (some 1) none = SX.S (s.cps.toList.drop 1) := by
  cases h : s.cps.toList with
  | nil =>
    have e : s = SX.S [] := by rw [← h, tlS]
    rw [e]; decide +kernel
  | cons c cs =>
    have e : s = SX.S (c :: cs) := by rw [← h, tlS]
    have := cutS_from (c :: cs) 1 (by simp)
    rw [e]; exact this
theorem lenTl (s : Str) : s.cps.toList.length = s.length := by simp [Str.length]
def spIsMark : Sp := fun vs H Q _ => ∃ (s m : Str), vs = [.str s, .str m] ∧ s.length ≤ 16777216 ∧ ∀ H', Same H H' → Q (.bl (isMark s m)) H'
theorem pure_ismark {K : PySem.W.Frag} {w : World} : PureOk 2 spIsMark (t_is_marked K w spIsNameG) 2 := by
  refine ⟨fun vs H Q E ⟨_, _, e, _⟩ => by rw [e]; rfl, ?_⟩
  rintro vs H Q E ⟨s, m, rfl, hl, q⟩
  show t_is_marked K w _ _ [some (.str s), some (.str m)] H
  unfold t_is_marked
  walk_at "gg"
  refine g_slS (by show _ ≤ 16777216; exact hl) ?_
  rw [cut1]
  walk_at "gg"
  unfold isMark at q
  by_cases h : SX.S (s.cps.toList.take 1) = m
  · rw [decide_eq_true h]
    rw [decide_eq_true h, Bool.true_and] at q
    walk_at "gg"
    refine g_slS (by show _ ≤ 16777216; exact hl) ?_
    rw [cut2]
    walk_at "gg"
    refine ⟨_, rfl, ?_, q⟩
    rw [SX.S_len, List.length_drop, lenTl]
    omega
  · rw [decide_eq_false h]
    rw [decide_eq_false h, Bool.false_and] at q
    walk_at "gg"
    exact q H (.refl _)
def spIsFigs : Sp := fun vs H Q _ => ∃ (s : Str), vs = [.str s] ∧ s.length ≤ 16777216 ∧ ∀ H', Same H H' → Q (.bl (isFigs s)) H'
theorem figs_rest {K : PySem.W.Frag} {w : World} {H : Hp} {Q : VK} {s : Str} {D : Ends} (hl : s.length ≤ 16777216) (q : ∀ H', Same H H' → Q (.bl (isFigs s)) H') (hD : D.rt = Q) : (tSeq (tIfS (tOr (tNot (tTest (tChain rLeG rLeG (tC (.int 1)) (tCB (rLenG K) (tCons (tVar 1) tNil)) (tC (.int 60))))) (tNot (tTru K (tCB (rAll K) (tCons (tLc (iSeq K (tVar 1)) (gName 2) tYes (tOp (rInG K w false) (tVar 2) (tC (.str "0123456789"))) [2]) tNil))))) (tRet (tC (.bl false))) tNext)
  (tRet (tOrT K (tOp (rEqG K) (tVar 0) (tC (.str "0"))) (tOp (rNeG K) (tIxG K w (tVar 1) (tC (.int 0))) (tC (.str "0")))))) D [some (.str s), some (.str (SX.S (figs s))), none] H := by
  subst hD
  have hfl : (figs s).length ≤ 16777216 := by
    unfold figs
    split
    · rw [List.length_drop, lenTl]; omega
    · rw [lenTl]; omega
  walk_at "gg"
  refine g_chain ?_
  walk_at "gg"
  refine g_lenS (by rw [SX.S_len]; exact hfl) ?_
  rw [SX.S_len]
  walk_at "gg"
  unfold isFigs at q
  by_cases h1 : 1 ≤ (figs s).length
  · refine g_T (decide_eq_true (by omega)) ?_
    walk_at "gg"
    rw [decide_eq_true h1, Bool.true_and] at q
    by_cases h2 : (figs s).length ≤ 60
    · refine g_F (by rw [decide_eq_true (by omega : ((figs s).length : Int) ≤ 60)]; rfl) ?_
      walk_at "gg"
      rw [decide_eq_true h2, Bool.true_and] at q
      refine g_seqS ?_
      walk_at "gg"
      refine lc_signs (K := K) (cs := figs s) (f := digc) (fun i H' hi _ => by show i < (SX.S (figs s)).cps.size; rw [← Array.length_toList]; exact hi) (fun H' _ => by show (SX.S (figs s)).cps.size ≤ _; rw [← Array.length_toList]; exact Nat.le_refl _) (by omega) ?_ ?_
      · rintro i c x H1 H2 Nx hc s1 ⟨rfl, c', hc', rfl⟩ hN
        walk_at "gg"
        refine ⟨rfl, ?_⟩
        walk_at "gg"
        have e : c' = c := by
          rw [← Array.getElem?_toList] at hc'
          exact Option.some.inj (hc'.symm.trans hc)
        subst e
        refine .inr (.inl ⟨_, figsText, rfl, rfl, ?_⟩)
        show Nx (.bl (!(Builtin.Str.occurrences figsText ⟨#[c']⟩ 0 figsText.length 1).isEmpty)) _
        rw [dig_in]
        exact hN _ (.refl _)
      · intro D H1 nD eD s1
        walk_at "gg"
        refine ⟨D, _, rfl, SqL.of eD, ?_⟩
        rw [all_map]
        by_cases h3 : (figs s).all digc = true
        · rw [h3]
          rw [h3, Bool.true_and] at q
          walk_at "gg"
          by_cases h4 : s = "0"
          · rw [decide_eq_true h4]
            rw [decide_eq_true h4, Bool.true_or] at q
            walk_at "gg"
            exact q H1 s1
          · rw [decide_eq_false h4]
            rw [decide_eq_false h4, Bool.false_or] at q
            walk_at "gg"
            obtain ⟨c, hc⟩ : ∃ c, (figs s)[0]? = some c := ⟨_, List.getElem?_eq_getElem (by omega)⟩
            refine g_ixS (by rw [SX.S_len]; exact hfl) (c := c) (atI_of (by decide) hc) ?_
            walk_at "gg"
            have e : decide ((⟨#[c]⟩ : Str) = "0") = decide ((figs s)[0]? = some 48) := by
              rw [hc]
              refine decide_eq_decide.mpr ⟨fun e => ?_, fun e => ?_⟩
              · have := congrArg (fun z : Str => z.cps.toList) e
                have h5 : [c] = [48] := this
                injection h5 with h5
                rw [h5]
              · cases e; rfl
            rw [e]
            exact q H1 s1
        · rw [Bool.not_eq_true] at h3
          rw [h3]
          rw [h3, Bool.false_and] at q
          walk_at "gg"
          exact q H1 s1
    · refine g_T (by rw [decide_eq_false (by omega : ¬ ((figs s).length : Int) ≤ 60)]; rfl) ?_
      walk_at "gg"
      rw [decide_eq_false h2, Bool.false_and, Bool.false_and] at q
      exact q H (.refl _)
  · refine g_F (decide_eq_false (by omega)) ?_
    walk_at "gg"
    rw [decide_eq_false h1, Bool.false_and, Bool.false_and] at q
    exact q H (.refl _)
theorem pure_isfigs {K : PySem.W.Frag} {w : World} : PureOk 1 spIsFigs (t_is_figures K w) 3 := by
  refine ⟨fun vs H Q E ⟨_, e, _⟩ => by rw [e]; rfl, ?_⟩
  rintro vs H Q E ⟨s, rfl, hl, q⟩
  show t_is_figures K w _ [some (.str s), none, none] H
  unfold t_is_figures
  walk_at "gg"
  refine g_slS (by show _ ≤ 16777216; exact hl) ?_
  rw [cut1]
  walk_at "gg"
  have hdl : ∀ n, (SX.S (s.cps.toList.drop n)).length ≤ 16777216 := fun n => by rw [SX.S_len, List.length_drop, lenTl]; omega
  by_cases h : SX.S (s.cps.toList.take 1) = "-"
  · refine g_T (decide_eq_true h) ?_
    walk_at "gg"
    refine g_slS (by show _ ≤ 16777216; exact hl) ?_
    rw [cut2]
    refine g_name rfl ?_
    have h2 : s.cps.toList.take 1 = [45] := by
      have := congrArg (fun z : Str => z.cps.toList) h
      exact this
    have e : s.cps.toList.drop 1 = figs s := by unfold figs; rw [if_pos h2]
    rw [e]
    exact figs_rest hl q rfl
  · refine g_F (decide_eq_false h) ?_
    have h2 : ¬ s.cps.toList.take 1 = [45] := fun e => h (by rw [e]; decide)
    refine g_var rfl ?_
    refine g_name rfl ?_
    have e : s = SX.S (figs s) := by unfold figs; rw [if_neg h2, tlS]
    have := figs_rest (K := K) (w := w) hl q (D := { nx := fun _ H' => Q .non H', rt := Q }) rfl
    rw [← e] at this
    exact this

/-! ### the reader: its state and its small methods -/
def PRc (K : PySem.W.Frag) : Addr := He.ga K "PartReader"
structure RdK (K : PySem.W.Frag) : Prop where
  c : Cls K (He.ga K "PartReader")
  row : NoAttr K (He.ga K "PartReader") "row"
  words : NoAttr K (He.ga K "PartReader") "words"
  at_ : NoAttr K (He.ga K "PartReader") "at"
  left : NoAttr K (He.ga K "PartReader") "left"
def rdF (row : Int) (wl : Addr) (i n : Int) : List (Str × V) := [("row", .int row), ("words", .ref wl), ("at", .int i), ("left", .int n)]
theorem rdF_at {row : Int} {wl : Addr} {i n j : Int} : putF "at" (.int j) (rdF row wl i n) = rdF row wl j n := rfl
theorem rdF_left {row : Int} {wl : Addr} {i n j : Int} : putF "left" (.int j) (rdF row wl i n) = rdF row wl i j := rfl
/-- the reader at a: of these words, at the i-th one, with room for n parts more -/
structure RdAt (K : PySem.W.Frag) (H : Hp) (a : Addr) (ws : List Str) (i n : Nat) (dx wl : Addr) (row : Int) : Prop where
  at_ : H a = some (.ins (He.ga K "PartReader") dx (rdF row wl i n))
  wl : H wl = some (.lst (ws.map V.str))
  few : ws.length ≤ 100000
theorem RdAt.same {K : PySem.W.Frag} {H H' : Hp} {a dx wl : Addr} {ws : List Str} {i n : Nat} {row : Int} (r : RdAt K H a ws i n dx wl row) (s : Same H H') : RdAt K H' a ws i n dx wl row := ⟨s _ _ r.at_, s _ _ r.wl, r.few⟩
theorem RdAt.ne {K : PySem.W.Frag} {H : Hp} {a dx wl : Addr} {ws : List Str} {i n : Nat} {row : Int} (r : RdAt K H a ws i n dx wl row) : wl ≠ a := fun e => by
  have h1 := r.at_
  have h2 := r.wl
  rw [e, h1] at h2
  cases h2
def spNo : Sp := fun _ _ _ _ => False
def spNow (K : PySem.W.Frag) : Sp := fun vs H Q _ => ∃ (a dx wl : Addr) (ws : List Str) (i n : Nat) (row : Int) (s : Str), vs = [.ref a] ∧ RdAt K H a ws i n dx wl row ∧ ws[i]? = some s ∧ Q (.str s) H
/-- a mark's name, one further -/
def spMark (K : PySem.W.Frag) : Sp := fun vs H Q _ => ∃ (a dx wl : Addr) (ws : List Str) (i n : Nat) (row : Int) (x : Str), vs = [.ref a] ∧ RdAt K H a ws i n dx wl row ∧ ws[i]? = some ("." ++ x) ∧ isName x ∧
  ∀ H', RdAt K H' a ws (i + 1) n dx wl row → Chg a H H' → Q (.str x) H'
def isKnown (s : Str) : Bool := isFigs s || (isMark s "." || isMark s ":")
def spBegin (K : PySem.W.Frag) : Sp := fun vs H Q _ => ∃ (a dx wl : Addr) (ws : List Str) (i n d : Nat) (row : Int) (s : Str), vs = [.ref a, .int d] ∧ RdAt K H a ws i (n + 1) dx wl row ∧ ws[i]? = some s ∧ s.length ≤ 640 ∧ d ≤ 12 ∧
  (isKnown s = true ∨ (PARTSkvs.find? fun q => decide (q.1 = s)).isSome = true ∨ s = "let") ∧ ∀ H', RdAt K H' a ws (i + 1) n dx wl row → Chg a H H' → Q (.str s) H'
theorem g_inK' {K : PySem.W.Frag} {w : World} {d : Addr} {kvs : List (Str × V)} {z : Str} {H : Hp} {Q : VK} (T : KTab K w d kvs) {r : Bool} (e : (kvs.find? fun q => decide (q.1 = z)).isSome = r) (q : Q (.bl (!r)) H) : rInG K w true (.str z) (.ref d) H Q :=
  .inr (.inr (.inr ⟨z, d, _, rfl, rfl, T z, by subst e; simpa using q⟩))
/-! ### numbers' texts -/
/-! ### the reader: parts -/
theorem RdAt.chg {K : PySem.W.Frag} {H H' : Hp} {a b dx wl : Addr} {ws : List Str} {i n : Nat} {row : Int} (r : RdAt K H a ws i n dx wl row) (c : Chg b H H') (h1 : a ≠ b) (h2 : wl ≠ b) : RdAt K H' a ws i n dx wl row := ⟨c _ _ h1 r.at_, c _ _ h2 r.wl, r.few⟩
theorem RdAt.tk {K : PySem.W.Frag} {H H' : Hp} {a dx wl : Addr} {ws : List Str} {i n : Nat} {row : Int} (r : RdAt K H a ws i n dx wl row) (c : Chg a H H') : Tk H H' := c.tk fun xs e => by rw [r.at_] at e; cases e
/-- these words stand from the i-th on -/
def Ahead (ws : List Str) (i : Nat) (xs : List Str) : Prop := xs <+: ws.drop i
theorem Ahead.app {ws xs ys : List Str} {i : Nat} (h : Ahead ws i (xs ++ ys)) : Ahead ws i xs ∧ Ahead ws (i + xs.length) ys := by
  obtain ⟨t, ht⟩ := h
  refine ⟨⟨ys ++ t, by rw [← List.append_assoc]; exact ht⟩, ⟨t, ?_⟩⟩
  have := congrArg (fun l => l.drop xs.length) ht
  rw [List.drop_drop, List.append_assoc, List.drop_left] at this
  exact this
def spRPart (K : PySem.W.Frag) (m : Nat) : Sp := fun vs H Q _ => ∃ (a dx wl : Addr) (ws : List Str) (i n d : Nat) (row : Int) (p : Part), vs = [.ref a, .int d] ∧ RdAt K H a ws i (n + p.size) dx wl row ∧ Ahead ws i p.words ∧ p.good ∧ p.size ≤ 60 ∧ p.deep ≤ m ∧ d + p.deep ≤ 13 ∧
  ∀ (v : V) (H' : Hp), Tp H' v p.data → RdAt K H' a ws (i + p.words.length) n dx wl row → Chg a H H' → Q v H'
def spRRows (K : PySem.W.Frag) (m : Nat) : Sp := fun vs H Q _ => ∃ (a dx wl : Addr) (ws : List Str) (i n d : Nat) (row : Int) (r : Rows), vs = [.ref a, .int d] ∧ RdAt K H a ws i (n + r.size) dx wl row ∧ Ahead ws i (numS r.list.length :: r.words) ∧ 1 ≤ r.list.length ∧ r.list.length ≤ 4 ∧
  (∀ q ∈ r.list, isName q.1 ∧ q.2.good ∧ q.2.size ≤ 60 ∧ q.2.deep ≤ m ∧ d + q.2.deep ≤ 13) ∧
  ∀ (v : V) (H' : Hp), Tp H' v (.tuple r.datas) → RdAt K H' a ws (i + 1 + r.words.length) n dx wl row → Chg a H H' → Q v H'
def rsz (l : List (Str × Part)) : Nat := (l.map fun q => q.2.size).sum
theorem g_slTw {K : PySem.W.Frag} {H : Hp} {Q : VK} {p : Addr} {xs : List V} {lo hi : Option Int} (h : H p = some (.tup xs)) (hw : HT.sIx xs.length 0 lo = 0 ∧ HT.sIx xs.length xs.length hi = xs.length) (q : Q (.ref p) H) : rSlG K (.ref p) lo hi H Q :=
  .inr (.inl ⟨p, xs, rfl, .of h, fun _ => q, fun z => absurd hw z⟩)
theorem Part.good.deep {p : Part} (h : p.good) : p.deep ≤ 12 := h.2

/-! ### the reader: whole rows, texts -/
def spRInit (K : PySem.W.Frag) : Sp := fun vs H Q _ => ∃ (x dx wl : Addr) (row i : Int), vs = [.ref x, .int row, .ref wl, .int i] ∧ H x = some (.ins (He.ga K "PartReader") dx []) ∧ ∀ H', H' x = some (.ins (He.ga K "PartReader") dx (rdF row wl i 60)) → Chg x H H' → Q .non H'
theorem pure_rinit {K : PySem.W.Frag} {w : World} (R : RdK K) : PureOk 4 (spRInit K) (t_PartReader___init__ K w) 4 := by
  refine ⟨fun vs H Q E ⟨_, _, _, _, _, e, _⟩ => by rw [e]; rfl, ?_⟩
  rintro vs H Q E ⟨x, dx, wl, row, i, rfl, ex, q⟩
  show t_PartReader___init__ K w _ [some (.ref x), some (.int row), some (.ref wl), some (.int i)] H
  unfold t_PartReader___init__
  walk_at "gg"
  refine g_sfldr ex R.c R.row (by show 0 < 1000; decide) (fs' := [("row", .int row)]) rfl fun H1 e1 c1 => ?_
  walk_at "gg"
  refine g_sfldr e1 R.c R.words (by show 1 < 1000; decide) (fs' := [("row", .int row), ("words", .ref wl)]) rfl fun H2 e2 c2 => ?_
  walk_at "gg"
  refine g_sfldr e2 R.c R.at_ (by show 2 < 1000; decide) (fs' := [("row", .int row), ("words", .ref wl), ("at", .int i)]) rfl fun H3 e3 c3 => ?_
  walk_at "gg"
  refine g_sfldr e3 R.c R.left (by show 3 < 1000; decide) (fs' := rdF row wl i 60) rfl fun H4 e4 c4 => ?_
  exact q H4 e4 (c1.trans (c2.trans (c3.trans c4)))
def spRWhole (K : PySem.W.Frag) : Sp := fun vs H Q _ => ∃ (a dx wl : Addr) (ws : List Str) (i n : Nat) (row : Int) (p : Part), vs = [.ref a] ∧ RdAt K H a ws i (n + p.size) dx wl row ∧ ws.drop i = p.words ∧ p.good ∧ p.size ≤ 60 ∧
  ∀ (v : V) (H' : Hp), Tp H' v p.data → Chg a H H' → Q v H'
def spReadPart (K : PySem.W.Frag) : Sp := fun vs H Q _ => ∃ (wl : Addr) (ws : List Str) (i : Nat) (row : Int) (p : Part), vs = [.int row, .ref wl, .int i] ∧ H wl = some (.lst (ws.map V.str)) ∧ ws.length ≤ 100000 ∧ ws.drop i = p.words ∧ p.good ∧ p.size ≤ 60 ∧
  ∀ (v : V) (H' : Hp), Tp H' v p.data → Same H H' → Q v H'
def spReadFn (K : PySem.W.Frag) : Sp := fun vs H Q _ => ∃ (wl : Addr) (row : Int) (fs : List Str) (f : Fn1), vs = [.int row, .ref wl] ∧ H wl = some (.lst (f.words.map V.str)) ∧ f.fine fs ∧
  ∀ (v : V) (H' : Hp), Tp H' v f.data → Same H H' → Q v H'
/-! ### texts read -/
def okc (c : Nat) : Prop := c ≠ 10 ∧ c ≠ 32
def okw (w : Str) : Prop := ∀ c ∈ w.cps.toList, okc c
theorem for_enumL {K : PySem.W.Frag} {g : TG} {tb : TS} {D : Ends} {σ : L2.St} {H : Hp} {a : Addr} {xs : List V} (Pv : Nat → L2.St → Hp → Prop) (ha : ∀ i σ H', Pv i σ H' → H' a = some (.lst xs)) (h0 : Pv 0 σ H)
    (hs : ∀ (i : Nat) x σ H' T H2, xs[i]? = some x → Pv i σ H' → Fr H' T → H2 T = some (.tup [.int (i : Nat), x]) → Same H' H2 → g (.ref T) σ H2 fun σ2 H3 => tb { D with nx := Pv (i + 1), ct := Pv (i + 1), bk := D.nx } σ2 H3) (hd : ∀ σ H', Pv xs.length σ H' → D.nx σ H') : ForW (Ite K a) g tb D σ H :=
  for_any xs.length Pv h0 (fun i σ H' hi p => ⟨_, _, .of (ha _ _ _ p), List.getElem?_eq_getElem hi⟩) (fun σ H' p => ⟨_, .of (ha _ _ _ p), Nat.le_refl _⟩)
    (fun i x σ H1 H2 hi p ⟨T, y, e1, nT, e2, hy⟩ => by
      subst e1 e2
      exact hs i y σ _ T _ (hy _ (.of (ha _ _ _ p))) p nT upd_same (same_upd nT)) hd
def spRead : Sp := fun vs H Q _ => ∃ (P : Prog), vs = [.str P.text] ∧ P.fine ∧ ∀ (v : V) (H' : Hp), Tp H' v P.data → Same H H' → Q v H'

/-! ### alike -/
theorem Tp.likeR {K : PySem.W.Frag} {H : Hp} {ds : List PyData} {v v' : V} {n : Nat} (h : Tp H v (.tuple ds)) (h' : Tp H v' (.tuple ds)) (hn : PyData.depthAll ds < n) : LkR K H (Lk K H n) v v' := by
  cases h with
  | tup e r =>
    cases h' with
    | tup e' r' => exact .inr ⟨_, _, _, _, rfl, rfl, .of e, .of e', Tps.like r r' hn⟩
theorem Part.depthAll (p : Part) : PyData.depthAll (.str p.word :: p.args) < PyData.depth p.data := by
  rw [p.data_eq, PyData.depth]
  omega
section
variable {K : PySem.W.Frag} {H : Hp} {x y : V} {Q : VK}
theorem g_eqLk {n : Nat} (h : LkR K H (Lk K H n) x y) (hn : n ≤ 150) (q : Q (.bl true) H) : rEqG K x y H Q := .inr (.inr (.inr (.inl ⟨n, hn, h, q⟩)))
end

/-! ### anything plain: none, truths, numbers, texts, tuples, lists (these are not looked into) -/
mutual
inductive Gq (H : Hp) : V → PyData → Prop
  | non : Gq H .non .none
  | bl (b : Bool) : Gq H (.bl b) (.bool b)
  | int (i : Int) : Gq H (.int i) (.int i)
  | str (x : Str) : x.length ≤ 16777216 → Gq H (.str x) (.str x)
  | tup {a : Addr} {xs : List V} {ds : List PyData} : H a = some (.tup xs) → Gqs H xs ds → Gq H (.ref a) (.tuple ds)
  | lst {a : Addr} {xs : List V} {ds : List PyData} : H a = some (.lst xs) → Gq H (.ref a) (.list ds)
inductive Gqs (H : Hp) : List V → List PyData → Prop
  | nil : Gqs H [] []
  | cons {v : V} {vs : List V} {d : PyData} {ds : List PyData} : Gq H v d → Gqs H vs ds → Gqs H (v :: vs) (d :: ds)
end
/-- the tuples stay, the lists stay lists -/
structure Tl (H H' : Hp) : Prop where
  tup : Tk H H'
  lst : ∀ a xs, H a = some (.lst xs) → ∃ ys, H' a = some (.lst ys)
theorem Tl.refl (H : Hp) : Tl H H := ⟨Tk.refl H, fun _ xs e => ⟨xs, e⟩⟩
theorem Tl.trans {H H1 H2 : Hp} (a : Tl H H1) (b : Tl H1 H2) : Tl H H2 := ⟨a.tup.trans b.tup, fun c xs e => by obtain ⟨ys, h⟩ := a.lst c xs e; exact b.lst c ys h⟩
theorem Same.tl {H H' : Hp} (s : Same H H') : Tl H H' := ⟨Same.tk s, fun a xs e => ⟨xs, s _ _ e⟩⟩
theorem Chg.tl {H H' : Hp} {a : Addr} {ys zs : List V} (c : Chg a H H') (h : H a = some (.lst ys)) (h' : H' a = some (.lst zs)) : Tl H H' := ⟨c.tkl h, fun b xs e => by
  by_cases hb : b = a
  · subst hb; exact ⟨zs, h'⟩
  · exact ⟨xs, c _ _ hb e⟩⟩
mutual
theorem Gq.mono {H H' : Hp} (k : Tl H H') : ∀ {d : PyData} {v : V}, Gq H v d → Gq H' v d
  | .none, _, h => by cases h; exact .non
  | .bool b, _, h => by cases h; exact .bl b
  | .int i, _, h => by cases h; exact .int i
  | .str x, _, h => by cases h with | str _ q => exact .str x q
  | .tuple ds, _, h => by
    cases h with
    | tup e r => exact .tup (k.tup _ _ e) (Gqs.mono k r)
  | .list ds, _, h => by
    cases h with
    | lst e => obtain ⟨ys, q⟩ := k.lst _ _ e; exact .lst q
  | .dict ds, _, h => by cases h
theorem Gqs.mono {H H' : Hp} (k : Tl H H') : ∀ {ds : List PyData} {vs : List V}, Gqs H vs ds → Gqs H' vs ds
  | [], _, h => by cases h; exact .nil
  | d :: ds, _, h => by
    cases h with
    | cons a b => exact .cons (Gq.mono k a) (Gqs.mono k b)
end
section
variable {H : Hp} {xs ys : List V} {ds es : List PyData} {v : V} {d : PyData}
theorem Gqs.length : ∀ {xs : List V} {ds : List PyData}, Gqs H xs ds → xs.length = ds.length
  | [], _, h => by cases h; rfl
  | x :: xs, _, h => by
    cases h with
    | cons a b => rw [List.length_cons, List.length_cons, Gqs.length b]
theorem Gqs.append : ∀ {xs : List V} {ds : List PyData}, Gqs H xs ds → Gqs H ys es → Gqs H (xs ++ ys) (ds ++ es)
  | [], _, h, h2 => by cases h; exact h2
  | x :: xs, _, h, h2 => by
    cases h with
    | cons a b => exact .cons a (Gqs.append b h2)
theorem Gqs.get : ∀ {xs : List V} {ds : List PyData} {i : Nat} {v : V}, Gqs H xs ds → xs[i]? = some v → ∃ d, ds[i]? = some d ∧ Gq H v d
  | [], _, i, v, _, e => by simp at e
  | x :: xs, _, 0, v, h, e => by
    cases h with
    | cons a b =>
      simp only [List.getElem?_cons_zero, Option.some.injEq] at e
      subst e
      exact ⟨_, rfl, a⟩
  | x :: xs, _, i + 1, v, h, e => by
    cases h with
    | cons a b =>
      rw [List.getElem?_cons_succ] at e
      obtain ⟨d, h1, h2⟩ := Gqs.get b e
      exact ⟨d, by rw [List.getElem?_cons_succ]; exact h1, h2⟩
theorem Gqs.cons_inv {vs : List V} (h : Gqs H vs (d :: ds)) : ∃ v us, vs = v :: us ∧ Gq H v d ∧ Gqs H us ds := by
  cases h with
  | cons a b => exact ⟨_, _, rfl, a, b⟩
theorem Gqs.nil_inv {vs : List V} (h : Gqs H vs []) : vs = [] := by cases h; rfl
theorem Gq.tup_inv (h : Gq H v (.tuple ds)) : ∃ a xs, v = .ref a ∧ H a = some (.tup xs) ∧ Gqs H xs ds := by
  cases h with
  | tup e r => exact ⟨_, _, rfl, e, r⟩
theorem Gq.str_inv {s : Str} (h : Gq H v (.str s)) : v = .str s ∧ s.length ≤ 16777216 := by
  cases h with
  | str _ q => exact ⟨rfl, q⟩
theorem Gqs.one (h : Gq H v d) : Gqs H [v] [d] := .cons h .nil
theorem Gqs.snoc_inv : ∀ {ds : List PyData} {e : PyData} {us : List V}, Gqs H us (ds ++ [e]) → ∃ vs v, us = vs ++ [v] ∧ Gqs H vs ds ∧ Gq H v e
  | [], e, us, h => by
    obtain ⟨v, us', rfl, h1, h2⟩ := Gqs.cons_inv h
    rw [h2.nil_inv]
    exact ⟨[], v, rfl, .nil, h1⟩
  | d :: ds, e, us, h => by
    obtain ⟨v, us', rfl, h1, h2⟩ := Gqs.cons_inv h
    obtain ⟨ws, u, rfl, h3, h4⟩ := Gqs.snoc_inv h2
    exact ⟨v :: ws, u, rfl, .cons h1 h3, h4⟩
theorem Gqs.of_get : ∀ {us : List V} {ds : List PyData}, us.length = ds.length → (∀ (i : Nat) y, us[i]? = some y → ∃ d, ds[i]? = some d ∧ Gq H y d) → Gqs H us ds
  | [], [], _, _ => .nil
  | u :: us, d :: ds, hl, h => by
    refine .cons ?_ (Gqs.of_get (Nat.succ.inj hl) fun i y hy => h (i + 1) y hy)
    obtain ⟨d', h1, h2⟩ := h 0 u rfl
    cases h1
    exact h2
end
def tyM : PyData → String
  | .none => "NoneType"
  | .bool _ => "bool"
  | .int _ => "int"
  | .str _ => "str"
  | .tuple _ => "tuple"
  | .list _ => "list"
  | .dict _ => "dict"
theorem Gq.ty {K : PySem.W.Frag} {H : Hp} {v : V} {d : PyData} (h : Gq H v d) : TyOf K H v (.type (tyM d)) := by
  cases h with
  | non => exact .non
  | bl b => exact .bl b
  | int i => exact .int i
  | str x _ => exact .str x
  | tup e _ => exact .tup e
  | lst e => exact .lst e
def isTupM : PyData → Bool
  | .tuple _ => true
  | _ => false
def isStrM : PyData → Bool
  | .str _ => true
  | _ => false
def isIntM : PyData → Bool
  | .int _ => true
  | .bool _ => true
  | _ => false
def isBoolM : PyData → Bool
  | .bool _ => true
  | _ => false
section
variable {K : PySem.W.Frag} {H : Hp} {v : V} {d : PyData} {Q : VK}
theorem g_isiTup (h : Gq H v d) (q : Q (.bl (isTupM d)) H) : rIsiG K [v, .ty "tuple"] H Q := g_isi h.ty (by cases h <;> (simp only [tyM, isTupM]; decide +kernel)) q
theorem g_isiStr (h : Gq H v d) (q : Q (.bl (isStrM d)) H) : rIsiG K [v, .ty "str"] H Q := g_isi h.ty (by cases h <;> (simp only [tyM, isStrM]; decide +kernel)) q
theorem g_isiInt (h : Gq H v d) (q : Q (.bl (isIntM d)) H) : rIsiG K [v, .ty "int"] H Q := g_isi h.ty (by cases h <;> (simp only [tyM, isIntM]; decide +kernel)) q
theorem g_isiBool (h : Gq H v d) (q : Q (.bl (isBoolM d)) H) : rIsiG K [v, .ty "bool"] H Q := g_isi h.ty (by cases h <;> (simp only [tyM, isBoolM]; decide +kernel)) q
end
/-! ### what is asked of names, numbers, rows -/
def nameM : PyData → Bool
  | .str s => decide (isName s)
  | _ => false
def wholeM : PyData → Bool
  | .int _ => true
  | _ => false
def smallM : PyData → Bool
  | .int n => decide (n.natAbs < 10 ^ 60)
  | _ => false
def rowM : PyData → Bool
  | .tuple [a, _] => nameM a
  | _ => false
def rowsM : PyData → Bool
  | .tuple ds => decide (1 ≤ ds.length) && (decide (ds.length ≤ 4) && ds.all rowM)
  | _ => false
def spIsNameX : Sp := fun vs H Q _ => ∃ (v : V) (d : PyData), vs = [v] ∧ Gq H v d ∧ ∀ H', Same H H' → Q (.bl (nameM d)) H'
theorem pure_isnameX {K : PySem.W.Frag} {w : World} : PureOk 1 spIsNameX (t_is_name K w) 2 := by
  refine ⟨fun vs H Q E ⟨_, _, e, _⟩ => by rw [e]; rfl, ?_⟩
  rintro vs H Q E ⟨v, d, rfl, t, q⟩
  by_cases hs : isStrM d = true
  · cases t with
    | str s hl => exact pure_isnameG.run [.str s] H Q E ⟨s, rfl, hl, q⟩
    | _ => cases hs
  · have hs' : isStrM d = false := by simpa using hs
    show t_is_name K w _ [some v, none] H
    unfold t_is_name
    walk_at "gg"
    refine g_isiStr t ?_
    walk_at "gg"
    refine g_T (by rw [hs']; rfl) ?_
    walk_at "gg"
    have := q H (.refl _)
    cases d <;> first | exact this | cases hs'
def spIsWholeX : Sp := fun vs H Q _ => ∃ (v : V) (d : PyData), vs = [v] ∧ Gq H v d ∧ ∀ H', Same H H' → Q (.bl (wholeM d)) H'
theorem pure_iswholeX {K : PySem.W.Frag} {w : World} : PureOk 1 spIsWholeX (t_is_whole K w) 1 := by
  refine ⟨fun vs H Q E ⟨_, _, e, _⟩ => by rw [e]; rfl, ?_⟩
  rintro vs H Q E ⟨v, d, rfl, t, q⟩
  show t_is_whole K w _ [some v] H
  unfold t_is_whole
  walk_at "gg"
  refine g_isiInt t ?_
  have h := q H (.refl _)
  walk_at "gg"
  refine g_ite (fun hi => ?_) (fun hi => ?_)
  · walk_at "gg"
    refine g_isiBool t ?_
    walk_at "gg"
    cases d <;> first | exact h | cases hi
  · cases d <;> first | exact h | cases hi
def spIsSmallX : Sp := fun vs H Q _ => ∃ (n : Int), vs = [.int n] ∧ Q (.bl (decide (n.natAbs < 10 ^ 60))) H
theorem pure_issmallX {K : PySem.W.Frag} {w : World} : PureOk 1 spIsSmallX (t_is_small K w) 1 := by
  refine ⟨fun vs H Q E ⟨_, e, _⟩ => by rw [e]; rfl, ?_⟩
  rintro vs H Q E ⟨n, rfl, q⟩
  show t_is_small K w _ [some (.int n)] H
  unfold t_is_small
  walk_at "gg"
  refine g_powI ⟨by decide, by decide, by decide⟩ ?_
  walk_at "gg"
  have e : decide ((n.natAbs : Int) < 10 ^ Int.toNat 60) = decide (n.natAbs < 10 ^ 60) := by
    have : (10 : Int) ^ Int.toNat 60 = ((10 ^ 60 : Nat) : Int) := by rfl
    rw [this]
    exact decide_eq_decide.mpr Int.ofNat_lt
  rw [e]
  exact q
def spIsRowX : Sp := fun vs H Q _ => ∃ (v : V) (d : PyData), vs = [v] ∧ Gq H v d ∧ ∀ H', Same H H' → Q (.bl (rowM d)) H'
theorem pure_isrowX {K : PySem.W.Frag} {w : World} : PureOk 1 spIsRowX (t_is_row K w spIsNameX) 1 := by
  refine ⟨fun vs H Q E ⟨_, _, e, _⟩ => by rw [e]; rfl, ?_⟩
  rintro vs H Q E ⟨v, d, rfl, t, q⟩
  show t_is_row K w _ _ [some v] H
  unfold t_is_row
  walk_at "gg"
  refine g_isiTup t ?_
  walk_at "gg"
  refine g_ite (fun hi => ?_) (fun hi => ?_)
  · cases d with
    | tuple ds =>
      obtain ⟨a, xs, rfl, ea, ts⟩ := t.tup_inv
      walk_at "gg"
      have hl := ts.length
      refine g_ite (fun h2 => ?_) (fun h2 => ?_)
      · have h2' : xs.length = 2 := by have := of_decide_eq_true h2; omega
        match ds, hl, ts with
        | [d1, d2], _, ts =>
          obtain ⟨x, us, rfl, tx, ts⟩ := ts.cons_inv
          walk_at "gg"
          exact ⟨x, d1, rfl, tx, q⟩
        | [], hl, _ => rw [h2'] at hl; cases hl
        | [_], hl, _ => rw [h2'] at hl; cases hl
        | _ :: _ :: _ :: _, hl, _ => rw [h2'] at hl; simp at hl
      · have h2' : xs.length ≠ 2 := by intro e; have := of_decide_eq_false h2; omega
        have := q H (.refl _)
        rw [show decide ((xs.length : Int) = 2) = false from h2]
        match ds, hl, this with
        | [], _, h => exact h
        | [_], _, h => exact h
        | [_, _], hl, _ => exact absurd hl h2'
        | _ :: _ :: _ :: _, _, h => exact h
    | _ => cases hi
  · have := q H (.refl _)
    cases d <;> first | exact this | cases hi
/-- a test of each item of a tuple -/
theorem lc_testT {K : PySem.W.Frag} {g : TG} {te : TE} {vs : List Nat} {σ : L2.St} {H1 : Hp} {a : Addr} {xs : List V} {ds : List PyData} {f : PyData → Bool} {Qd : Addr → Hp → Prop} (ea : H1 a = some (.tup xs)) (tds : Gqs H1 xs ds) (hl : xs.length ≤ 100000)
    (hs : ∀ (x : V) (d : PyData) H' (Nx : V → Hp → Prop), Gq H' x d → (∀ H4, Same H' H4 → Nx (.bl (f d)) H4) → g x (wipe σ vs) H' fun σ2 H2 => wipe σ2 vs = wipe σ vs ∧ te σ2 H2 Nx)
    (hd : ∀ D H', Fr H1 D → H' D = some (.lst ((ds.map f).map V.bl)) → Same H1 H' → Qd D H') : LcR (Itt K a) g tYes te vs σ H1 Qd := by
  refine lc_mapT ea hl (fun i y H' => ∃ d, ds[i]? = some d ∧ y = .bl (f d)) (fun i y H H' k h => h) ?_ ?_
  · intro i x H' Nx hx s hN
    obtain ⟨d, hdd, tx⟩ := tds.get hx
    exact hs x d H' Nx (tx.mono (Same.tl s)) fun H4 s4 => hN _ H4 s4 ⟨d, hdd, rfl⟩
  · intro D ys H' nD eD hys hF s
    have hlen := tds.length
    have : ys = (ds.map f).map V.bl := by
      refine List.ext_getElem? fun i => ?_
      cases e : ys[i]? with
      | none =>
        rw [List.getElem?_eq_none_iff] at e
        rw [List.getElem?_eq_none (by rw [List.length_map, List.length_map]; omega)]
      | some y =>
        obtain ⟨d, hq, rfl⟩ := hF i y e
        rw [List.getElem?_map, List.getElem?_map, hq]
        rfl
    subst this
    exact hd D H' nD eD s
theorem all_mapD {ds : List PyData} {f : PyData → Bool} : (ds.map f).all id = ds.all f := by rw [List.all_map]; rfl
def spAreRowsX : Sp := fun vs H Q _ => ∃ (v : V) (d : PyData), vs = [v] ∧ Gq H v d ∧ ∀ H', Same H H' → Q (.bl (rowsM d)) H'
theorem pure_arerowsX {K : PySem.W.Frag} {w : World} : PureOk 1 spAreRowsX (t_are_rows K w spIsRowX) 2 := by
  refine ⟨fun vs H Q E ⟨_, _, e, _⟩ => by rw [e]; rfl, ?_⟩
  rintro vs H Q E ⟨v, d, rfl, t, q⟩
  show t_are_rows K w _ _ [some v, none] H
  unfold t_are_rows
  walk_at "gg"
  refine g_isiTup t ?_
  walk_at "gg"
  refine g_ite (fun hi => ?_) (fun hi => ?_)
  · cases d with
    | tuple ds =>
      obtain ⟨a, xs, rfl, ea, ts⟩ := t.tup_inv
      have hl := ts.length
      walk_at "gg"
      refine g_chain ?_
      walk_at "gg"
      by_cases h1 : 1 ≤ ds.length
      · refine g_T (decide_eq_true (by omega)) ?_
        walk_at "gg"
        by_cases h2 : ds.length ≤ 4
        · refine g_T (decide_eq_true (by omega)) ?_
          walk_at "gg"
          refine g_seqT ?_
          walk_at "gg"
          refine lc_testT (f := rowM) ea ts (by omega) ?_ ?_
          · intro x d H' Nx tx hN
            walk_at "gg"
            refine ⟨rfl, ?_⟩
            walk_at "gg"
            exact ⟨x, d, rfl, tx, hN⟩
          · intro D H' nD eD s
            walk_at "gg"
            refine ⟨D, _, rfl, SqL.of eD, ?_⟩
            rw [all_mapD]
            have this : Q (.bl (decide (1 ≤ ds.length) && (decide (ds.length ≤ 4) && ds.all rowM))) H' := q H' s
            rw [decide_eq_true h1, decide_eq_true h2, Bool.true_and, Bool.true_and] at this
            exact this
        · refine g_F (decide_eq_false (by omega)) ?_
          have this : Q (.bl (decide (1 ≤ ds.length) && (decide (ds.length ≤ 4) && ds.all rowM))) H := q H (.refl _)
          rw [decide_eq_true h1, decide_eq_false h2, Bool.true_and, Bool.false_and] at this
          rw [decide_eq_false (by omega)]
          exact this
      · refine g_F (decide_eq_false (by omega)) ?_
        have this : Q (.bl (decide (1 ≤ ds.length) && (decide (ds.length ≤ 4) && ds.all rowM))) H := q H (.refl _)
        rw [decide_eq_false h1, Bool.false_and] at this
        walk_at "gg"
        exact this
    | _ => cases hi
  · have := q H (.refl _)
    cases d <;> first | exact this | cases hi

/-! ### the parts of anything -/
theorem g_cutH {A : Prop} (C : Hp → Prop) {B : Hp → Prop} (f : (∀ H', C H' → B H') → A) (b : ∀ H', C H' → B H') : A := f b
def argsM (s : Str) : Option Nat := match (PARTSkvs.find? fun q => decide (q.1 = s)).map (·.2) with
  | some (V.int n) => some n.toNat
  | _ => none
theorem args_find (s : Str) : ((PARTSkvs.find? fun q => decide (q.1 = s)).isSome = (argsM s).isSome) ∧ ∀ n, argsM s = some n → (PARTSkvs.find? fun q => decide (q.1 = s)).map (·.2) = some (.int (n : Nat)) ∧ n ≤ 3 ∧ 1 ≤ n := by
  unfold argsM
  cases e : PARTSkvs.find? fun q => decide (q.1 = s) with
  | none => exact ⟨rfl, fun n h => by cases h⟩
  | some q =>
    have hm := List.mem_of_find?_eq_some e
    have key : ∀ q ∈ PARTSkvs, q.2 = .int 1 ∨ q.2 = .int 2 ∨ q.2 = .int 3 := by
      intro q hq
      simp only [PARTSkvs, List.mem_cons, List.not_mem_nil, or_false] at hq
      rcases hq with rfl | rfl | rfl | rfl | rfl | rfl | rfl | rfl | rfl <;> simp
    obtain ⟨k, v⟩ := q
    rcases key _ hm with h | h | h <;> (dsimp only at h; subst h; exact ⟨rfl, fun n h => by cases h; exact ⟨rfl, by decide, by decide⟩⟩)
def sndM : PyData → PyData
  | .tuple (_ :: b :: _) => b
  | d => d
def tupM : PyData → List PyData
  | .tuple ds => ds
  | _ => []
def kidsM : PyData → Option (List PyData)
  | .tuple (.str s :: d :: r) =>
    if s = "number" ∧ r.length = 0 ∧ smallM d = true then some []
    else if (s = "name" ∨ s = "fun") ∧ r.length = 0 ∧ nameM d = true then some []
    else if argsM s = some (r.length + 1) then some (d :: r)
    else if s = "let" ∧ r.length = 1 ∧ rowsM d = true then some ((tupM d).map sndM ++ r)
    else none
  | _ => none
theorem kidsM_len {d : PyData} {ks : List PyData} (h : kidsM d = some ks) : ks.length ≤ 5 := by
  unfold kidsM at h
  split at h
  · rename_i s d r
    split at h
    · cases h; exact Nat.zero_le _
    · split at h
      · cases h; exact Nat.zero_le _
      · split at h
        · rename_i h3
          cases h
          have := ((args_find s).2 _ h3).2.1
          simp only [List.length_cons]; omega
        · split at h
          · rename_i h4
            cases h
            obtain ⟨_, h5, h6⟩ := h4
            cases d with
            | tuple ds =>
              have h6' : (decide (1 ≤ ds.length) && (decide (ds.length ≤ 4) && ds.all rowM)) = true := h6
              simp only [Bool.and_eq_true, decide_eq_true_iff] at h6'
              rw [List.length_append, List.length_map]
              show ds.length + _ ≤ 5
              omega
            | _ => cases h6
          · cases h
  · cases h
section
variable {K : PySem.W.Frag} {H1 : Hp} {g : TG} {te : TE} {vs : List Nat} {σ : L2.St} {a : Addr} {xs : List V} {Qd : Addr → Hp → Prop} {F : Nat → V → Hp → Prop}
theorem lc_map_tl {J : It} (hJ1 : ∀ i H', i < xs.length → Same H1 H' → J.go i H') (hJ2 : ∀ H', Same H1 H' → J.stop xs.length H') (hJ3 : ∀ i H' x H2, Same H1 H' → J.yld i H' x H2 → H2 = H' ∧ xs[i]? = some x)
    (hl : xs.length ≤ 100000) (F : Nat → V → Hp → Prop) (hF : ∀ i y H H', Tl H H' → F i y H → F i y H')
    (hs : ∀ (i : Nat) x H' (Nx : V → Hp → Prop), xs[i]? = some x → Same H1 H' → (∀ y H4, Same H' H4 → F i y H4 → Nx y H4) → g x (wipe σ vs) H' fun σ2 H2 => wipe σ2 vs = wipe σ vs ∧ te σ2 H2 Nx)
    (hd : ∀ D (ys : List V) H', Fr H1 D → H' D = some (.lst ys) → ys.length = xs.length → (∀ (i : Nat) y, ys[i]? = some y → F i y H') → Same H1 H' → Qd D H') : LcR J g tYes te vs σ H1 Qd := by
  intro D hD
  refine lc_any xs.length (fun i acc H' => acc.length = i ∧ (∀ (j : Nat) y, acc[j]? = some y → F j y H') ∧ Same H1 H') hD (fun H' _ s => ⟨rfl, by simp, s⟩) (fun i acc H' hi ⟨_, _, s⟩ => hJ1 i H' hi s) (fun acc H' ⟨_, _, s⟩ => hJ2 H' s) ?_ ?_
  · rintro i x acc H2 H' hi hla ⟨ha, hf, s2⟩ hd2 hy
    obtain ⟨rfl, hx⟩ := hJ3 i _ _ _ s2 hy
    refine hs i x _ _ hx s2 fun y H4 s4 f4 => ?_
    refine lc_step (s4 _ _ hd2) hla (by show _ < 16777216; omega) fun H5 e5 c5 => ?_
    have k5 : Tl H4 H5 := c5.tl (s4 _ _ hd2) e5
    refine ⟨by rw [List.length_append, ha]; rfl, fun j z hz => ?_, Same.chg (s2.trans s4) hD c5⟩
    by_cases hj : j < acc.length
    · rw [List.getElem?_append_left hj] at hz
      exact hF _ _ _ _ ((Same.tl s4).trans k5) (hf j z hz)
    · have hj2 : j < (acc ++ [y]).length := (List.getElem?_eq_some_iff.mp hz).1
      rw [List.length_append, List.length_singleton] at hj2
      have : j = acc.length := by omega
      subst this
      rw [List.getElem?_append_right (Nat.le_refl _), Nat.sub_self] at hz
      cases hz
      rw [ha]
      exact hF _ _ _ _ k5 f4
  · rintro acc H' hd2 ⟨ha, hf, s⟩
    exact hd D acc H' hD hd2 ha hf s
/-- of each item another thing -/
theorem lc_gqT {ds : List PyData} (ea : H1 a = some (.tup xs)) (hl : xs.length ≤ 100000) (tds : Gqs H1 xs ds) (f : PyData → PyData)
    (hs : ∀ (x : V) (d : PyData) H' (Nx : V → Hp → Prop), d ∈ ds → Gq H' x d → (∀ y H4, Same H' H4 → Gq H4 y (f d) → Nx y H4) → g x (wipe σ vs) H' fun σ2 H2 => wipe σ2 vs = wipe σ vs ∧ te σ2 H2 Nx)
    (hd : ∀ D (ys : List V) H', Fr H1 D → H' D = some (.lst ys) → Gqs H' ys (ds.map f) → Same H1 H' → Qd D H') : LcR (Itt K a) g tYes te vs σ H1 Qd := by
  refine lc_map_tl (xs := xs) (fun i H' hi s => ⟨_, _, .of (s _ _ ea), List.getElem?_eq_getElem hi⟩) (fun H' s => ⟨_, .of (s _ _ ea), Nat.le_refl _⟩) (fun i H' x H2 s ⟨e, hx⟩ => ⟨e, hx _ (.of (s _ _ ea))⟩) hl
    (fun i y H' => ∃ d, ds[i]? = some d ∧ Gq H' y (f d)) (fun i y H H' k ⟨d, h1, h2⟩ => ⟨d, h1, h2.mono k⟩) ?_ ?_
  · intro i x H' Nx hx s hN
    obtain ⟨d, hdd, tx⟩ := tds.get hx
    exact hs x d H' Nx (List.mem_of_getElem? hdd) (tx.mono (Same.tl s)) fun y H4 s4 ty => hN y H4 s4 ⟨d, hdd, ty⟩
  · intro D ys H' nD eD hys hF s
    refine hd D ys H' nD eD (Gqs.of_get (by rw [List.length_map, hys, tds.length]) fun i y hy => ?_) s
    obtain ⟨d, h1, h2⟩ := hF i y hy
    exact ⟨_, by rw [List.getElem?_map, h1]; rfl, h2⟩
theorem lc_gqL {ds : List PyData} (ea : H1 a = some (.lst xs)) (hl : xs.length ≤ 100000) (tds : Gqs H1 xs ds) (f : PyData → PyData)
    (hs : ∀ (x : V) (d : PyData) H' (Nx : V → Hp → Prop), d ∈ ds → Gq H' x d → (∀ y H4, Same H' H4 → Gq H4 y (f d) → Nx y H4) → g x (wipe σ vs) H' fun σ2 H2 => wipe σ2 vs = wipe σ vs ∧ te σ2 H2 Nx)
    (hd : ∀ D (ys : List V) H', Fr H1 D → H' D = some (.lst ys) → Gqs H' ys (ds.map f) → Same H1 H' → Qd D H') : LcR (Itl K a) g tYes te vs σ H1 Qd := by
  refine lc_map_tl (xs := xs) (fun i H' hi s => ⟨_, _, .of (s _ _ ea), List.getElem?_eq_getElem hi⟩) (fun H' s => ⟨_, .of (s _ _ ea), Nat.le_refl _⟩) (fun i H' x H2 s ⟨e, hx⟩ => ⟨e, hx _ (.of (s _ _ ea))⟩) hl
    (fun i y H' => ∃ d, ds[i]? = some d ∧ Gq H' y (f d)) (fun i y H H' k ⟨d, h1, h2⟩ => ⟨d, h1, h2.mono k⟩) ?_ ?_
  · intro i x H' Nx hx s hN
    obtain ⟨d, hdd, tx⟩ := tds.get hx
    exact hs x d H' Nx (List.mem_of_getElem? hdd) (tx.mono (Same.tl s)) fun y H4 s4 ty => hN y H4 s4 ⟨d, hdd, ty⟩
  · intro D ys H' nD eD hys hF s
    refine hd D ys H' nD eD (Gqs.of_get (by rw [List.length_map, hys, tds.length]) fun i y hy => ?_) s
    obtain ⟨d, h1, h2⟩ := hF i y hy
    exact ⟨_, by rw [List.getElem?_map, h1]; rfl, h2⟩
end
theorem inV_two (s a b : Str) : inV (.str s) [.str a, .str b] = decide (s = a ∨ s = b) := by
  unfold inV
  simp only [List.any_cons, List.any_nil, L2.eqV, Bool.or_false]
  rw [Bool.eq_iff_iff]
  simp only [Bool.or_eq_true, beq_iff_eq, decide_eq_true_iff]
  constructor
  · rintro (h | h)
    · exact .inl h.symm
    · exact .inr h.symm
  · rintro (h | h)
    · exact .inl h.symm
    · exact .inr h.symm
def spPartsOfX : Sp := fun vs H Q _ => ∃ (v : V) (d : PyData), vs = [v] ∧ Gq H v d ∧ (kidsM d = none → ∀ H', Same H H' → Q .non H') ∧
  ∀ ks, kidsM d = some ks → ∀ (l : Addr) (us : List V) (H' : Hp), H l = none → H' l = some (.lst us) → Gqs H' us ks → Same H H' → Q (.ref l) H'
theorem pure_partsofX {K : PySem.W.Frag} {w : World} (T : KTab K w (He.ga K "PARTS") PARTSkvs) : PureOk 1 spPartsOfX (t_parts_of K w spIsWholeX spIsSmallX spIsNameX spAreRowsX) 2 := by
  refine ⟨fun vs H Q E ⟨_, _, e, _⟩ => by rw [e]; rfl, ?_⟩
  rintro vs H Q E ⟨v, d, rfl, t, qn, qs⟩
  show t_parts_of K w _ _ _ _ _ [some v, none] H
  unfold t_parts_of
  walk_at "gg"
  refine g_isiTup t ?_
  walk_at "gg"
  cases d with
  | tuple ds =>
    refine g_F rfl ?_
    obtain ⟨a, xs, rfl, ea, ts⟩ := t.tup_inv
    have hl := ts.length
    walk_at "gg"
    match ds, ts, hl, qn, qs with
    | [], ts, hl, qn, qs =>
      refine g_T (decide_eq_true (by rw [hl]; show (0 : Int) < 2; decide)) ?_
      walk_at "gg"
      exact qn rfl _ (.refl _)
    | [d0], ts, hl, qn, qs =>
      refine g_T (decide_eq_true (by rw [hl]; show (1 : Int) < 2; decide)) ?_
      walk_at "gg"
      refine qn ?_ _ (.refl _)
      cases d0 <;> rfl
    | d0 :: d1 :: r, ts, hl, qn, qs =>
      refine g_F (decide_eq_false (by rw [hl]; simp only [List.length_cons]; omega)) ?_
      obtain ⟨x0, us0, rfl, t0, tsa⟩ := ts.cons_inv
      obtain ⟨x1, us, rfl, t1, tsb⟩ := tsa.cons_inv
      clear tsa ts
      have hlr := tsb.length
      walk_at "gg"
      refine g_isiStr t0 ?_
      walk_at "gg"
      cases d0 with
      | str s =>
        obtain ⟨rfl, hsl⟩ := t0.str_inv
        have hk : kidsM (.tuple (.str s :: d1 :: r)) = (if s = "number" ∧ r.length = 0 ∧ smallM d1 = true then some []
          else if (s = "name" ∨ s = "fun") ∧ r.length = 0 ∧ nameM d1 = true then some []
          else if argsM s = some (r.length + 1) then some (d1 :: r)
          else if s = "let" ∧ r.length = 1 ∧ rowsM d1 = true then some ((tupM d1).map sndM ++ r)
          else none) := rfl
        rw [hk] at qn qs
        have hlen : ((V.str s :: x1 :: us).length : Int) = r.length + 2 := by simp only [List.length_cons, hlr]; omega
        clear hk hl t
        walk_at "gg"
        refine g_cutH (fun H' => Same H H' ∧ ¬ (s = "number" ∧ r.length = 0 ∧ smallM d1 = true)) (B := ?B1) (fun rest => ?f1) ?b1
        case f1 =>
          by_cases h1 : s = "number"
          · refine g_T (decide_eq_true h1) ?_
            walk_at "gg"
            by_cases h2 : r.length = 0
            · refine g_T (decide_eq_true (by rw [hlen, h2]; rfl)) ?_
              walk_at "gg"
              refine ⟨x1, d1, rfl, t1, fun H1 s1 => ?_⟩
              have ea1 := s1 _ _ ea
              walk_at "gg"
              by_cases h3 : wholeM d1 = true
              · refine g_T h3 ?_
                obtain ⟨n, hx, hd⟩ : ∃ n, x1 = V.int n ∧ d1 = .int n := by
                  cases t1 with
                  | int n => exact ⟨n, rfl, rfl⟩
                  | _ => cases h3
                walk_at "gg"
                refine ⟨n, by rw [hx]; rfl, ?_⟩
                by_cases h4 : n.natAbs < 10 ^ 60
                · rw [decide_eq_true h4]
                  walk_at "gg"
                  rename_i l H2 n2 e2 s2
                  exact qs [] (if_pos ⟨h1, h2, by rw [hd]; exact decide_eq_true h4⟩) l [] H2 (s1.free n2) e2 .nil (s1.trans s2)
                · rw [decide_eq_false h4]
                  refine g_trubl ?_
                  refine g_F rfl ?_
                  exact rest H1 ⟨s1, fun hh => h4 (by rw [hd] at hh; exact of_decide_eq_true hh.2.2)⟩
              · refine g_F (by simpa using h3) ?_
                refine g_F rfl ?_
                exact rest H1 ⟨s1, fun hh => h3 (by cases d1 <;> first | rfl | cases hh.2.2)⟩
            · refine g_F (decide_eq_false (by rw [hlen]; omega)) ?_
              refine g_F rfl ?_
              exact rest H ⟨.refl _, fun hh => h2 hh.2.1⟩
          · refine g_F (decide_eq_false h1) ?_
            refine g_F rfl ?_
            exact rest H ⟨.refl _, fun hh => h1 hh.1⟩
        rintro H1 ⟨s1, c1⟩
        rw [if_neg c1] at qn qs
        have ea1 := s1 _ _ ea
        have t11 := t1.mono (Same.tl s1)
        have ts1 := tsb.mono (Same.tl s1)
        clear ea t1 tsb
        walk_at "gg"
        rename_i tp H2 n2 e2 s2
        refine .inl ⟨tp, _, rfl, .inr (.of e2), rfl, rfl, ?_⟩
        rw [inV_two]
        walk_at "gg"
        have s02 := s1.trans s2
        have ea2 := s2 _ _ ea1
        have t12 := t11.mono (Same.tl s2)
        have ts2 := ts1.mono (Same.tl s2)
        clear ea1 t11 ts1 n2 e2
        refine g_cutH (fun H' => Same H H' ∧ Same H2 H' ∧ ¬ ((s = "name" ∨ s = "fun") ∧ r.length = 0 ∧ nameM d1 = true)) (B := ?B2) (fun rest => ?f2) ?b2
        case f2 =>
          by_cases h1 : s = "name" ∨ s = "fun"
          · refine g_T (decide_eq_true h1) ?_
            walk_at "gg"
            by_cases h2 : r.length = 0
            · refine g_T (decide_eq_true (by rw [hlen, h2]; rfl)) ?_
              walk_at "gg"
              refine ⟨x1, d1, rfl, t12, fun H3 s3 => ?_⟩
              walk_at "gg"
              by_cases h3 : nameM d1 = true
              · refine g_T h3 ?_
                walk_at "gg"
                rename_i l H4 n4 e4 s4
                exact qs [] (if_pos ⟨h1, h2, h3⟩) l [] H4 (s02.free (s3.free n4)) e4 .nil (s02.trans (s3.trans s4))
              · refine g_F (by simpa using h3) ?_
                exact rest H3 ⟨s02.trans s3, s3, fun hh => h3 hh.2.2⟩
            · refine g_F (decide_eq_false (by rw [hlen]; omega)) ?_
              refine g_F rfl ?_
              exact rest H2 ⟨s02, .refl _, fun hh => h2 hh.2.1⟩
          · refine g_F (decide_eq_false h1) ?_
            refine g_F rfl ?_
            exact rest H2 ⟨s02, .refl _, fun hh => h1 hh.1⟩
        rintro H3 ⟨s03, s23, c2⟩
        rw [if_neg c2] at qn qs
        have ea3 := s23 _ _ ea2
        have t13 := t12.mono (Same.tl s23)
        have ts3 := ts2.mono (Same.tl s23)
        clear ea2 t12 ts2 s1 s2 s02 s23
        walk_at "gg"
        refine g_inK T (args_find s).1 ?_
        walk_at "gg"
        refine g_cutH (fun H' => H' = H3 ∧ ¬ (argsM s = some (r.length + 1))) (B := ?B3) (fun rest => ?f3) ?b3
        case f3 =>
          cases hn : argsM s with
          | none =>
            refine g_F rfl ?_
            refine g_F rfl ?_
            exact rest H3 ⟨rfl, fun z => by rw [hn] at z; cases z⟩
          | some n =>
            obtain ⟨hv, hn3, hn1⟩ := (args_find s).2 n hn
            refine g_T rfl ?_
            walk_at "gg"
            refine g_ixKT T hv ?_
            walk_at "gg"
            by_cases h2 : n = r.length + 1
            · refine g_T (decide_eq_true (by rw [hlen, h2]; omega)) ?_
              walk_at "gg"
              refine g_slT (.of ea3) (not_whole (by simp)) fun p2 H4 n4 e4 s4 => ?_
              rw [cut_tail] at e4
              refine g_listT (.of e4) fun l H5 nl el s5 => ?_
              have s45 := s4.trans s5
              refine qs (d1 :: r) (if_pos (by rw [hn, h2])) l _ H5 (s03.free (s4.free nl)) el (.cons (t13.mono (Same.tl s45)) (ts3.mono (Same.tl s45))) (s03.trans s45)
            · refine g_F (decide_eq_false (by rw [hlen]; omega)) ?_
              exact rest H3 ⟨rfl, fun z => by rw [hn] at z; cases z; exact h2 rfl⟩
        rintro H3' ⟨rfl, c3⟩
        rw [if_neg c3] at qn qs
        walk_at "gg"
        by_cases h1 : s = "let"
        · refine g_T (decide_eq_true h1) ?_
          walk_at "gg"
          by_cases h2 : r.length = 1
          · refine g_T (decide_eq_true (by rw [hlen, h2]; rfl)) ?_
            walk_at "gg"
            obtain ⟨d2, rfl⟩ : ∃ d2, r = [d2] := by
              match r, h2 with
              | [d2], _ => exact ⟨d2, rfl⟩
            obtain ⟨x2, us, rfl, t2, ts4⟩ := ts3.cons_inv
            rw [ts4.nil_inv] at ea3
            refine ⟨x1, d1, rfl, t13, fun H4 s4 => ?_⟩
            have ea4 := s4 _ _ ea3
            have t14 := t13.mono (Same.tl s4)
            have t24 := t2.mono (Same.tl s4)
            have s04 := s03.trans s4
            clear ea3 t13 t2 ts3 s03 s4
            walk_at "gg"
            by_cases h3 : rowsM d1 = true
            · refine g_T h3 ?_
              have qs' := qs _ (if_pos ⟨h1, h2, h3⟩)
              unfold rowsM at h3
              split at h3
              · rename_i rs
                simp only [Bool.and_eq_true, decide_eq_true_iff, List.all_eq_true] at h3
                obtain ⟨h31, h32, h33⟩ := h3
                obtain ⟨ra, rxs, rfl, er, tr⟩ := t14.tup_inv
                have hrl := tr.length
                walk_at "gg"
                refine g_seqT ?_
                walk_at "gg"
                refine lc_gqT er (by omega) tr sndM ?_ ?_
                · intro x d H' Nx hdm tx hN
                  have hrow := h33 d hdm
                  unfold rowM at hrow
                  split at hrow
                  · rename_i e1 e2
                    obtain ⟨ra2, ys, rfl, er2, ty⟩ := tx.tup_inv
                    obtain ⟨y1, ys, rfl, ty1, ty⟩ := ty.cons_inv
                    obtain ⟨y2, ys, rfl, ty2, ty⟩ := ty.cons_inv
                    walk_at "gg"
                    refine ⟨rfl, ?_⟩
                    walk_at "gg"
                    exact hN y2 _ (.refl _) ty2
                  · cases hrow
                · intro D ys H5 nD eD tys s5
                  have hyl := tys.length
                  rw [List.length_map] at hyl
                  walk_at "gg"
                  rename_i l6 H6 n6 e6 s6 l7 H7 n7 e7 s7
                  have s67 := s6.trans s7
                  exact qs' l7 _ H7 (s04.free (s5.free (s6.free n7))) e7 ((tys.mono (Same.tl s67)).append (.one (t24.mono (Same.tl (s5.trans s67))))) (s04.trans (s5.trans s67))
              · cases h3
            · refine g_F (by simpa using h3) ?_
              walk_at "gg"
              exact qn (if_neg fun hh => h3 hh.2.2) _ s04
          · refine g_F (decide_eq_false (by rw [hlen]; omega)) ?_
            walk_at "gg"
            exact qn (if_neg fun hh => h2 hh.2.1) _ s03
        · refine g_F (decide_eq_false h1) ?_
          walk_at "gg"
          exact qn (if_neg fun hh => h1 hh.1) _ s03
      | _ => exact qn rfl _ (.refl _)
  | _ => exact qn rfl _ (.refl _)

/-! ### bodies, functions, programs: of anything -/
def gpd (q : PyData × Nat) : PyData := .tuple [q.1, .int q.2]
/-- a pile of parts with their depths, the one that is next at first -/
def runB : Nat → Nat → List (PyData × Nat) → Bool
  | _, _, [] => true
  | 0, _, _ :: _ => false
  | f + 1, many, (d, deep) :: st => match kidsM d with
    | none => false
    | some ks => if deep > 12 ∨ many + 1 > 60 then false else runB f (many + 1) ((ks.map fun k => (k, deep + 1)).reverse ++ st)
def bodyM (d : PyData) : Bool := runB 61 0 [(d, 1)]
def spIsBodyX : Sp := fun vs H Q _ => ∃ (v : V) (d : PyData), vs = [v] ∧ Gq H v d ∧ ∀ H', Same H H' → Q (.bl (bodyM d)) H'
theorem pure_isbodyX {K : PySem.W.Frag} {w : World} : PureOk 1 spIsBodyX (t_is_body K w spPartsOfX) 7 := by
  refine ⟨fun vs H Q E ⟨_, _, e, _⟩ => by rw [e]; rfl, ?_⟩
  rintro vs H Q E ⟨v, d, rfl, t, q⟩
  show t_is_body K w _ _ [some v, none, none, none, none, none, none] H
  unfold t_is_body
  walk_at "gg"
  rename_i a1 H1 n1 e1 s1 pl H2 n2 e2 s2
  have npl : H pl = none := s1.free n2
  refine while_any (fun m σ H' => ∃ (x3 x4 x5 x6 : Option V) (many : Nat) (vs : List V) (st : List (PyData × Nat)), σ = [some v, some (.int many), some (.ref pl), x3, x4, x5, x6] ∧ H' pl = some (.lst vs) ∧ Gqs H' vs (st.reverse.map gpd) ∧
      many ≤ 60 ∧ vs.length ≤ 5 * many + 1 ∧ runB (61 - many) many st = bodyM d ∧ m = 61 - many ∧ Same H H') 61
    ⟨none, none, none, none, 0, [.ref a1], [(d, 1)], rfl, e2, .cons (.tup (s2 _ _ e1) (.cons (t.mono (Same.tl (s1.trans s2))) (.one (.int _)))) .nil, by omega, by simp, rfl, rfl, s1.trans s2⟩ ?_
  rintro m σ H3 ⟨x3, x4, x5, x6, many, vs, st, rfl, hp, tp, hm60, hvl, hrun, rfl, s3⟩
  walk_at "gg"
  rename_i l4 H4 n4 e4 s4
  have s04 := s3.trans s4
  have hp4 := s4 _ _ hp
  cases st with
  | nil =>
    have hvs : vs = [] := List.eq_nil_of_length_eq_zero (by rw [tp.length]; rfl)
    subst hvs
    refine g_F rfl ?_
    walk_at "gg"
    have e : bodyM d = true := by rw [← hrun]; cases 61 - many <;> rfl
    rw [← e]
    exact q _ s04
  | cons q1 st' =>
    obtain ⟨d1, k1⟩ := q1
    rw [List.reverse_cons, List.map_append] at tp
    obtain ⟨vs', v1, rfl, tp', t1⟩ := Gqs.snoc_inv tp
    have hvl' : vs'.length ≤ 5 * many := by rw [List.length_append, List.length_singleton] at hvl; omega
    refine g_T (by cases vs' <;> rfl) ?_
    refine g_turn ?_
    obtain ⟨a5, us, rfl, ea5, tu⟩ := Gq.tup_inv (ds := [d1, .int k1]) t1
    obtain ⟨u1, us, rfl, tu1, tu⟩ := tu.cons_inv
    obtain ⟨u2, us, rfl, tu2, tu⟩ := tu.cons_inv
    rw [tu.nil_inv] at ea5
    have hu2 : u2 = .int k1 := by cases tu2; rfl
    subst hu2
    have tp4' := tp'.mono (Same.tl s4)
    have tu14 := tu1.mono (Same.tl s4)
    have ea54 := s4 _ _ ea5
    clear tp tu1 ea5 hp s3 s4 e4 n4 t1 tp' tu tu2
    walk_at "gg"
    refine g_pop hp4 ?_
    walk_at "gg"
    rename_i H5 e5 c5
    have s05 : Same H H5 := Same.chg s04 npl c5
    have k45 : Tl H4 H5 := c5.tl hp4 e5
    have tp5' := tp4'.mono k45
    have tu15 := tu14.mono k45
    have ea55 := k45.tup _ _ ea54
    clear tp4' tu14 ea54 k45 hp4 c5 s04
    refine g_un2 ea55 ?_
    walk_at "gg"
    have hr2 : runB (61 - many) many ((d1, k1) :: st') = match kidsM d1 with
        | none => false
        | some ks => if k1 > 12 ∨ many + 1 > 60 then false else runB (60 - many) (many + 1) ((ks.map fun k => (k, k1 + 1)).reverse ++ st') := by
      have e : 61 - many = (60 - many) + 1 := by omega
      rw [e]; rfl
    rw [hr2] at hrun
    refine ⟨u1, d1, rfl, tu15, fun hno H7 s7 => ?_, fun ks hks l us H7 nl7 el7 tk7 s7 => ?_⟩
    · rw [hno] at hrun
      have hrun' : false = bodyM d := hrun
      walk_at "gg"
      refine .inl ⟨rfl, ?_⟩
      walk_at "gg"
      rw [hrun']
      exact q _ (s05.trans s7)
    rw [hks] at hrun
    dsimp only at hrun
    have hkl := kidsM_len hks
    have hul := tk7.length
    have e75 := s7 _ _ e5
    have tp7' := tp5'.mono (Same.tl s7)
    have s07 := s05.trans s7
    clear e5 tp5' tu15 ea55 s05 s7
    walk_at "gg"
    refine .inl ⟨rfl, ?_⟩
    walk_at "gg"
    by_cases h12 : k1 > 12
    · rw [if_pos (.inl h12)] at hrun
      refine g_T (decide_eq_true (by omega)) ?_
      walk_at "gg"
      rw [hrun]
      exact q _ s07
    refine g_F (decide_eq_false (by omega)) ?_
    walk_at "gg"
    by_cases h60 : many + 1 > 60
    · rw [if_pos (.inr h60)] at hrun
      refine g_T (decide_eq_true (by omega)) ?_
      walk_at "gg"
      rw [hrun]
      exact q _ s07
    refine g_F (decide_eq_false (by omega)) ?_
    rw [if_neg (fun h => h.elim h12 h60)] at hrun
    walk_at "gg"
    refine g_seqL ?_
    walk_at "gg"
    refine lc_gqL el7 (by omega) tk7 (fun k => gpd (k, k1 + 1)) ?_ ?_
    · intro x dx H' Nx hx tx hN
      walk_at "gg"
      refine ⟨rfl, ?_⟩
      walk_at "gg"
      rename_i a8 H8 n8 e8 s8
      exact hN _ _ s8 (.tup e8 (.cons (tx.mono (Same.tl s8)) (.one (.int _))))
    · intro D ys H8 nD eD tys s8
      have hyl := tys.length
      rw [List.length_map] at hyl
      have e85 := s8 _ _ e75
      walk_at "gg"
      refine g_extend e85 eD (by show _ ≤ 16777216; omega) ?_
      walk_at "gg"
      rename_i H9 e9 c9
      have k89 : Tl H8 H9 := c9.tl e85 e9
      refine ⟨61 - (many + 1), by omega, _, _, _, _, many + 1, _, (ks.map fun k => (k, k1 + 1)).reverse ++ st', rfl, e9, ?_, by omega, ?_, ?_, rfl, Same.chg (s07.trans s8) npl c9⟩
      · rw [List.reverse_append, List.reverse_reverse, List.map_append, List.map_map]
        exact Gqs.append ((tp7'.mono (Same.tl s8)).mono k89) (tys.mono k89)
      · rw [List.length_append]; omega
      · rw [show 61 - (many + 1) = 60 - many from by omega]; exact hrun
def functionM : PyData → Bool
  | .tuple [n, .tuple ths, b] => nameM n && (decide (ths.length ≤ 4) && (ths.all nameM && bodyM b))
  | _ => false
def spIsFunctionX : Sp := fun vs H Q _ => ∃ (v : V) (d : PyData), vs = [v] ∧ Gq H v d ∧ ∀ H', Same H H' → Q (.bl (functionM d)) H'
theorem pure_isfunctionX {K : PySem.W.Frag} {w : World} : PureOk 1 spIsFunctionX (t_is_function K w spIsNameX spIsBodyX) 2 := by
  refine ⟨fun vs H Q E ⟨_, _, e, _⟩ => by rw [e]; rfl, ?_⟩
  rintro vs H Q E ⟨v, d, rfl, t, q⟩
  show t_is_function K w _ _ _ [some v, none] H
  unfold t_is_function
  walk_at "gg"
  refine g_isiTup t ?_
  walk_at "gg"
  cases d with
  | tuple ds =>
    refine g_F rfl ?_
    obtain ⟨a, xs, rfl, ea, ts⟩ := t.tup_inv
    have hl := ts.length
    clear t
    walk_at "gg"
    match ds, ts, hl, q with
    | [d0, d1, d2], ts, hl, q =>
      refine g_F (by rw [decide_eq_true (by rw [hl]; rfl)]; rfl) ?_
      obtain ⟨x0, us0, rfl, t0, tsa⟩ := ts.cons_inv
      obtain ⟨x1, us1, rfl, t1, tsb⟩ := tsa.cons_inv
      obtain ⟨x2, us2, rfl, t2, tsc⟩ := tsb.cons_inv
      rw [tsc.nil_inv] at ea
      clear tsa tsb tsc ts
      walk_at "gg"
      refine ⟨x0, d0, rfl, t0, fun H1 s1 => ?_⟩
      have ea1 := s1 _ _ ea
      have t11 := t1.mono (Same.tl s1)
      have t21 := t2.mono (Same.tl s1)
      clear ea t0 t1 t2
      walk_at "gg"
      by_cases h0 : nameM d0 = true
      · refine g_F (by rw [h0]; rfl) ?_
        walk_at "gg"
        refine g_isiTup t11 ?_
        walk_at "gg"
        cases d1 with
        | tuple ths =>
          refine g_F rfl ?_
          obtain ⟨b, ys, rfl, eb, ty⟩ := t11.tup_inv
          have hyl := ty.length
          have hq : ∀ H', Same H H' → Q (.bl (decide (ths.length ≤ 4) && (ths.all nameM && bodyM d2))) H' := fun H' s' => by
            have := q H' s'
            rwa [show functionM (.tuple [d0, .tuple ths, d2]) = (nameM d0 && (decide (ths.length ≤ 4) && (ths.all nameM && bodyM d2))) from rfl, h0, Bool.true_and] at this
          walk_at "gg"
          by_cases h4 : ths.length ≤ 4
          · refine g_T (decide_eq_true (by omega)) ?_
            rw [decide_eq_true h4] at hq
            walk_at "gg"
            refine g_seqT ?_
            walk_at "gg"
            refine lc_testT (f := nameM) eb ty (by omega) ?_ ?_
            · intro x d H' Nx tx hN
              walk_at "gg"
              refine ⟨rfl, ?_⟩
              walk_at "gg"
              exact ⟨x, d, rfl, tx, hN⟩
            · intro D H' nD eD s
              walk_at "gg"
              refine ⟨D, _, rfl, SqL.of eD, ?_⟩
              rw [all_mapD]
              walk_at "gg"
              by_cases h5 : ths.all nameM = true
              · refine g_T h5 ?_
                rw [h5] at hq
                walk_at "gg"
                exact ⟨x2, d2, rfl, t21.mono (Same.tl s), fun H'' s2 => hq H'' (s1.trans (s.trans s2))⟩
              · have h5' : ths.all nameM = false := by simpa using h5
                refine g_F h5' ?_
                rw [h5'] at hq ⊢
                exact hq H' (s1.trans s)
          · refine g_F (decide_eq_false (by omega)) ?_
            rw [decide_eq_false h4] at hq
            rw [decide_eq_false (by omega)]
            exact hq H1 s1
        | _ =>
          refine g_T rfl ?_
          walk_at "gg"
          exact q H1 s1
      · have h0' : nameM d0 = false := by simpa using h0
        refine g_T (by rw [h0']; rfl) ?_
        walk_at "gg"
        have := q H1 s1
        cases d1 with
        | tuple ths =>
          rwa [show functionM (.tuple [d0, .tuple ths, d2]) = (nameM d0 && (decide (ths.length ≤ 4) && (ths.all nameM && bodyM d2))) from rfl, h0', Bool.false_and] at this
        | _ => exact this
    | [], ts, hl, q =>
      refine g_T (by rw [decide_eq_false (by rw [hl]; show ¬ ((0 : Int) = 3); decide)]; rfl) ?_
      walk_at "gg"
      exact q H (.refl _)
    | [_], ts, hl, q =>
      refine g_T (by rw [decide_eq_false (by rw [hl]; show ¬ ((1 : Int) = 3); decide)]; rfl) ?_
      walk_at "gg"
      exact q H (.refl _)
    | [_, d1], ts, hl, q =>
      refine g_T (by rw [decide_eq_false (by rw [hl]; show ¬ ((2 : Int) = 3); decide)]; rfl) ?_
      walk_at "gg"
      have := q H (.refl _)
      cases d1 <;> exact this
    | _ :: d1 :: _ :: _ :: _, ts, hl, q =>
      refine g_T (by rw [decide_eq_false (by rw [hl]; simp only [List.length_cons]; omega)]; rfl) ?_
      walk_at "gg"
      have := q H (.refl _)
      cases d1 <;> exact this
  | _ =>
    refine g_T rfl ?_
    walk_at "gg"
    exact q H (.refl _)
def builtM : PyData → Bool
  | .tuple [.tuple fs, b] => decide (fs.length ≤ 8) && (fs.all functionM && bodyM b)
  | _ => false
def spIsBuiltX : Sp := fun vs H Q _ => ∃ (v : V) (d : PyData), vs = [v] ∧ Gq H v d ∧ ∀ H', Same H H' → Q (.bl (builtM d)) H'
theorem pure_isbuiltX {K : PySem.W.Frag} {w : World} : PureOk 1 spIsBuiltX (t_is_built K w spIsFunctionX spIsBodyX) 2 := by
  refine ⟨fun vs H Q E ⟨_, _, e, _⟩ => by rw [e]; rfl, ?_⟩
  rintro vs H Q E ⟨v, d, rfl, t, q⟩
  show t_is_built K w _ _ _ [some v, none] H
  unfold t_is_built
  walk_at "gg"
  refine g_isiTup t ?_
  walk_at "gg"
  cases d with
  | tuple ds =>
    refine g_F rfl ?_
    obtain ⟨a, xs, rfl, ea, ts⟩ := t.tup_inv
    have hl := ts.length
    clear t
    walk_at "gg"
    match ds, ts, hl, q with
    | [d1, d2], ts, hl, q =>
      refine g_F (by rw [decide_eq_true (by rw [hl]; rfl)]; rfl) ?_
      obtain ⟨x1, us1, rfl, t1, tsb⟩ := ts.cons_inv
      obtain ⟨x2, us2, rfl, t2, tsc⟩ := tsb.cons_inv
      rw [tsc.nil_inv] at ea
      clear tsb tsc ts
      walk_at "gg"
      refine g_isiTup t1 ?_
      walk_at "gg"
      cases d1 with
      | tuple ths =>
        refine g_F rfl ?_
        obtain ⟨b, ys, rfl, eb, ty⟩ := t1.tup_inv
        have hyl := ty.length
        have hq : ∀ H', Same H H' → Q (.bl (decide (ths.length ≤ 8) && (ths.all functionM && bodyM d2))) H' := q
        walk_at "gg"
        by_cases h4 : ths.length ≤ 8
        · refine g_T (decide_eq_true (by omega)) ?_
          rw [decide_eq_true h4] at hq
          walk_at "gg"
          refine g_seqT ?_
          walk_at "gg"
          refine lc_testT (f := functionM) eb ty (by omega) ?_ ?_
          · intro x d H' Nx tx hN
            walk_at "gg"
            refine ⟨rfl, ?_⟩
            walk_at "gg"
            exact ⟨x, d, rfl, tx, hN⟩
          · intro D H' nD eD s
            walk_at "gg"
            refine ⟨D, _, rfl, SqL.of eD, ?_⟩
            rw [all_mapD]
            walk_at "gg"
            by_cases h5 : ths.all functionM = true
            · refine g_T h5 ?_
              rw [h5] at hq
              walk_at "gg"
              exact ⟨x2, d2, rfl, t2.mono (Same.tl s), fun H'' s2 => hq H'' (s.trans s2)⟩
            · have h5' : ths.all functionM = false := by simpa using h5
              refine g_F h5' ?_
              rw [h5'] at hq ⊢
              exact hq H' s
        · refine g_F (decide_eq_false (by omega)) ?_
          rw [decide_eq_false h4] at hq
          rw [decide_eq_false (by omega)]
          exact hq H (.refl _)
      | _ =>
        refine g_T rfl ?_
        walk_at "gg"
        exact q H (.refl _)
    | [], ts, hl, q =>
      refine g_T (by rw [decide_eq_false (by rw [hl]; show ¬ ((0 : Int) = 2); decide)]; rfl) ?_
      walk_at "gg"
      exact q H (.refl _)
    | [d1], ts, hl, q =>
      refine g_T (by rw [decide_eq_false (by rw [hl]; show ¬ ((1 : Int) = 2); decide)]; rfl) ?_
      walk_at "gg"
      have := q H (.refl _)
      cases d1 <;> exact this
    | d1 :: _ :: _ :: _, ts, hl, q =>
      refine g_T (by rw [decide_eq_false (by rw [hl]; simp only [List.length_cons]; omega)]; rfl) ?_
      walk_at "gg"
      have := q H (.refl _)
      cases d1 <;> exact this
  | _ =>
    refine g_T rfl ?_
    walk_at "gg"
    exact q H (.refl _)

/-! ### what is let by is a program's data -/
mutual
/-- a part of the right kinds: names, small numbers, one to four rows -/
def Part.shape : Part → Prop
  | .num n => n.natAbs < 10 ^ 60
  | .name x => isName x
  | .fn f => isName f
  | .one _ a => a.shape
  | .two _ a b => a.shape ∧ b.shape
  | .whn a b c => a.shape ∧ b.shape ∧ c.shape
  | .letp r a => r.names.length ≤ 4 ∧ r.names ≠ [] ∧ (∀ x ∈ r.names, isName x) ∧ r.shape ∧ a.shape
  | .shut _ => False
def Rows.shape : Rows → Prop
  | .nil => True
  | .cons _ a r => a.shape ∧ r.shape
end
mutual
def Part.uses : Part → List Str
  | .num _ => []
  | .name x => [x]
  | .fn f => [f]
  | .one _ a => a.uses
  | .two _ a b => a.uses ++ b.uses
  | .whn a b c => a.uses ++ (b.uses ++ c.uses)
  | .letp r a => r.uses ++ a.uses
  | .shut _ => []
def Rows.uses : Rows → List Str
  | .nil => []
  | .cons _ a r => a.uses ++ r.uses
end
mutual
theorem Part.shape.ok : ∀ {p : Part}, p.shape → ∀ {fs sc : List Str}, (∀ x ∈ p.uses, x ∈ fs ∧ x ∈ sc) → p.ok fs sc
  | .num n, h, _, _, _ => h
  | .name x, h, _, _, u => ⟨(u x (List.mem_singleton.mpr rfl)).2, h⟩
  | .fn x, h, _, _, u => ⟨(u x (List.mem_singleton.mpr rfl)).1, h⟩
  | .one _ a, h, _, _, u => Part.shape.ok (p := a) h u
  | .two _ a b, h, _, _, u => ⟨Part.shape.ok (p := a) h.1 fun x hx => u x (List.mem_append.mpr (.inl hx)), Part.shape.ok (p := b) h.2 fun x hx => u x (List.mem_append.mpr (.inr hx))⟩
  | .whn a b c, h, _, _, u => ⟨Part.shape.ok (p := a) h.1 fun x hx => u x (List.mem_append.mpr (.inl hx)), Part.shape.ok (p := b) h.2.1 fun x hx => u x (List.mem_append.mpr (.inr (List.mem_append.mpr (.inl hx)))), Part.shape.ok (p := c) h.2.2 fun x hx => u x (List.mem_append.mpr (.inr (List.mem_append.mpr (.inr hx))))⟩
  | .letp r a, h, _, _, u => ⟨h.1, h.2.1, h.2.2.1, Rows.shape.ok (r := r) h.2.2.2.1 fun x hx => ⟨(u x (List.mem_append.mpr (.inl hx))).1, List.mem_append.mpr (.inl (u x (List.mem_append.mpr (.inl hx))).2)⟩,
      Part.shape.ok (p := a) h.2.2.2.2 fun x hx => ⟨(u x (List.mem_append.mpr (.inr hx))).1, List.mem_append.mpr (.inl (u x (List.mem_append.mpr (.inr hx))).2)⟩⟩
  | .shut _, h, _, _, _ => h.elim
theorem Rows.shape.ok : ∀ {r : Rows}, r.shape → ∀ {fs sc : List Str}, (∀ x ∈ r.uses, x ∈ fs ∧ x ∈ sc) → r.ok fs sc
  | .nil, _, _, _, _ => trivial
  | .cons _ a r, h, _, _, u => ⟨Part.shape.ok (p := a) h.1 fun x hx => u x (List.mem_append.mpr (.inl hx)), Rows.shape.ok (r := r) h.2 fun x hx => u x (List.mem_append.mpr (.inr hx))⟩
end
mutual
theorem Part.ok.shape : ∀ {p : Part} {fs sc : List Str}, p.ok fs sc → p.shape
  | .num n, _, _, h => h
  | .name x, _, _, h => h.2
  | .fn x, _, _, h => h.2
  | .one _ a, _, _, h => Part.ok.shape (p := a) h
  | .two _ a b, _, _, h => ⟨Part.ok.shape (p := a) h.1, Part.ok.shape (p := b) h.2⟩
  | .whn a b c, _, _, h => ⟨Part.ok.shape (p := a) h.1, Part.ok.shape (p := b) h.2.1, Part.ok.shape (p := c) h.2.2⟩
  | .letp r a, _, _, h => ⟨h.1, h.2.1, h.2.2.1, Rows.ok.shape (r := r) h.2.2.2.1, Part.ok.shape (p := a) h.2.2.2.2⟩
  | .shut _, _, _, h => h.elim
theorem Rows.ok.shape : ∀ {r : Rows} {fs sc : List Str}, r.ok fs sc → r.shape
  | .nil, _, _, _ => trivial
  | .cons _ a r, _, _, h => ⟨Part.ok.shape (p := a) h.1, Rows.ok.shape (r := r) h.2⟩
end
structure Part.bd (p : Part) : Prop where
  shape : p.shape
  deep : p.deep ≤ 12
  size : p.size ≤ 60
theorem Part.bd.good {p : Part} (h : p.bd) : p.good := ⟨⟨p.uses, p.uses, h.shape.ok fun x hx => ⟨hx, hx⟩⟩, h.deep⟩
theorem Part.fine.bd {fs sc : List Str} {p : Part} (h : p.fine fs sc) : p.bd := ⟨Part.ok.shape h.ok, h.deep, h.size⟩
theorem Rows.shape_parts : ∀ {r : Rows}, (∀ p ∈ r.parts, p.shape) → r.shape
  | .nil, _ => trivial
  | .cons _ a r, h => ⟨h a List.mem_cons_self, Rows.shape_parts fun p hp => h p (List.mem_cons_of_mem _ hp)⟩
theorem Rows.parts_shape : ∀ {r : Rows}, r.shape → ∀ p ∈ r.parts, p.shape
  | .nil, _, p, hp => by cases hp
  | .cons _ a r, h, p, hp => by
    rcases List.mem_cons.mp hp with rfl | hp
    · exact h.1
    · exact Rows.parts_shape h.2 p hp
theorem Part.shape.kids {p : Part} (h : p.shape) : ∀ q ∈ p.kids, q.shape := by
  intro q hq
  cases p with
  | num n => cases hq
  | name x => cases hq
  | fn f => cases hq
  | one k a => rw [List.mem_singleton.mp hq]; exact h
  | two k a b =>
    simp only [Part.kids, List.mem_cons, List.not_mem_nil, or_false] at hq
    rcases hq with rfl | rfl
    · exact h.1
    · exact h.2
  | whn a b c =>
    simp only [Part.kids, List.mem_cons, List.not_mem_nil, or_false] at hq
    rcases hq with rfl | rfl | rfl
    · exact h.1
    · exact h.2.1
    · exact h.2.2
  | letp r a =>
    rcases List.mem_append.mp hq with hq | hq
    · exact Rows.parts_shape h.2.2.2.1 q hq
    · rw [List.mem_singleton.mp hq]; exact h.2.2.2.2
  | shut a => cases hq
theorem nameM_inv {d : PyData} (h : nameM d = true) : ∃ s, d = .str s ∧ isName s := by
  cases d with
  | str s => exact ⟨s, rfl, of_decide_eq_true h⟩
  | _ => cases h
theorem rowM_inv {d : PyData} (h : rowM d = true) : ∃ x e, d = .tuple [.str x, e] ∧ isName x := by
  unfold rowM at h
  split at h
  · rename_i a e
    obtain ⟨s, rfl, hs⟩ := nameM_inv h
    exact ⟨s, e, rfl, hs⟩
  · cases h
theorem rows_decode : ∀ {rows : List PyData}, (∀ d ∈ rows, rowM d = true) → ∀ {ps : List Part}, rows.map sndM = ps.map Part.data → ∃ r : Rows, r.datas = rows ∧ r.parts = ps ∧ (∀ x ∈ r.names, isName x) ∧ r.names.length = rows.length
  | [], _, [], _ => ⟨.nil, rfl, rfl, fun x hx => (List.not_mem_nil hx).elim, rfl⟩
  | [], _, _ :: _, e => by simp at e
  | _ :: _, _, [], e => by simp at e
  | d :: rows, h, p :: ps, e => by
    rw [List.map_cons, List.map_cons] at e
    obtain ⟨e1, e2⟩ := List.cons.inj e
    obtain ⟨r, h1, h2, h3, h4⟩ := rows_decode (fun d hd => h d (List.mem_cons_of_mem _ hd)) e2
    obtain ⟨x, u, rfl, hx⟩ := rowM_inv (h d List.mem_cons_self)
    have e1' : u = p.data := e1
    subst e1'
    refine ⟨.cons x p r, by show _ :: r.datas = _; rw [h1], by show p :: r.parts = _; rw [h2], fun y hy => ?_, by show r.names.length + 1 = rows.length + 1; rw [h4]⟩
    rcases List.mem_cons.mp hy with rfl | hy
    · exact hx
    · exact h3 y hy
theorem argsM_inv {s : Str} {n : Nat} (h : argsM s = some n) : (∃ k : K1, s = k.word ∧ n = 1) ∨ (∃ k : K2, s = k.word ∧ n = 2) ∨ (s = "when" ∧ n = 3) := by
  unfold argsM at h
  cases e : PARTSkvs.find? fun q => decide (q.1 = s) with
  | none => rw [e] at h; cases h
  | some q =>
    rw [e] at h
    have hm := List.mem_of_find?_eq_some e
    have hp := List.find?_some e
    have he : q.1 = s := of_decide_eq_true hp
    simp only [PARTSkvs, List.mem_cons, List.not_mem_nil, or_false] at hm
    rcases hm with rfl | rfl | rfl | rfl | rfl | rfl | rfl | rfl | rfl <;> (dsimp only at he; subst he; cases h)
    · exact .inr (.inl ⟨.give, rfl, rfl⟩)
    · exact .inr (.inl ⟨.plus, rfl, rfl⟩)
    · exact .inr (.inl ⟨.less, rfl, rfl⟩)
    · exact .inr (.inl ⟨.times, rfl, rfl⟩)
    · exact .inr (.inl ⟨.below, rfl, rfl⟩)
    · exact .inr (.inr ⟨rfl, rfl⟩)
    · exact .inr (.inl ⟨.pair, rfl, rfl⟩)
    · exact .inl ⟨.left, rfl, rfl⟩
    · exact .inl ⟨.right, rfl, rfl⟩
theorem argsM_1 (k : K1) : argsM k.word = some 1 := by cases k <;> decide +kernel
theorem argsM_2 (k : K2) : argsM k.word = some 2 := by cases k <;> decide +kernel
theorem argsM_3 : argsM "when" = some 3 := by decide +kernel
theorem kidsM_decode {d : PyData} {ks : List PyData} (h : kidsM d = some ks) {ps : List Part} (e : ks = ps.map Part.data) (hs : ∀ p ∈ ps, p.shape) : ∃ p : Part, p.data = d ∧ p.shape ∧ p.kids = ps := by
  subst e
  unfold kidsM at h
  split at h
  · rename_i s d r
    split at h
    · rename_i h1
      obtain ⟨rfl, h2, h3⟩ := h1
      have hr : r = [] := List.eq_nil_of_length_eq_zero h2
      subst hr
      have hps : ps = [] := by have := Option.some.inj h; simpa using this.symm
      subst hps
      cases d with
      | int n => exact ⟨.num n, rfl, of_decide_eq_true (p := n.natAbs < 10 ^ 60) h3, rfl⟩
      | _ => cases h3
    · split at h
      · rename_i h1
        obtain ⟨h1, h2, h3⟩ := h1
        have hr : r = [] := List.eq_nil_of_length_eq_zero h2
        subst hr
        have hps : ps = [] := by have := Option.some.inj h; simpa using this.symm
        subst hps
        obtain ⟨x, rfl, hx⟩ := nameM_inv h3
        rcases h1 with rfl | rfl
        · exact ⟨.name x, rfl, hx, rfl⟩
        · exact ⟨.fn x, rfl, hx, rfl⟩
      · split at h
        · rename_i h3
          have hd : d :: r = ps.map Part.data := Option.some.inj h
          have hl : r.length + 1 = ps.length := by have := congrArg List.length hd; simpa using this
          rcases argsM_inv h3 with ⟨k, rfl, hn⟩ | ⟨k, rfl, hn⟩ | ⟨rfl, hn⟩
          · match ps, hl, hd, hs with
            | [a], _, hd, hs =>
              obtain ⟨rfl, rfl⟩ := List.cons.inj hd
              exact ⟨.one k a, rfl, hs a List.mem_cons_self, rfl⟩
            | [], hl, _, _ => simp at hl
            | _ :: _ :: _, hl, _, _ => simp only [List.length_cons] at hl; omega
          · match ps, hl, hd, hs with
            | [a, b], _, hd, hs =>
              obtain ⟨rfl, rfl⟩ := List.cons.inj hd
              exact ⟨.two k a b, rfl, ⟨hs a (by simp), hs b (by simp)⟩, rfl⟩
            | [], hl, _, _ => simp at hl
            | [_], hl, _, _ => simp only [List.length_cons, List.length_nil] at hl; omega
            | _ :: _ :: _ :: _, hl, _, _ => simp only [List.length_cons] at hl; omega
          · match ps, hl, hd, hs with
            | [a, b, c], _, hd, hs =>
              obtain ⟨rfl, rfl⟩ := List.cons.inj hd
              exact ⟨.whn a b c, rfl, ⟨hs a (by simp), hs b (by simp), hs c (by simp)⟩, rfl⟩
            | [], hl, _, _ => simp at hl
            | [_], hl, _, _ => simp only [List.length_cons, List.length_nil] at hl; omega
            | [_, _], hl, _, _ => simp only [List.length_cons, List.length_nil] at hl; omega
            | _ :: _ :: _ :: _ :: _, hl, _, _ => simp only [List.length_cons] at hl; omega
        · split at h
          · rename_i h4
            obtain ⟨rfl, h5, h6⟩ := h4
            obtain ⟨d2, rfl⟩ : ∃ d2, r = [d2] := by
              match r, h5 with
              | [d2], _ => exact ⟨d2, rfl⟩
            cases d with
            | tuple rows =>
              have h6' : (decide (1 ≤ rows.length) && (decide (rows.length ≤ 4) && rows.all rowM)) = true := h6
              simp only [Bool.and_eq_true, decide_eq_true_iff, List.all_eq_true] at h6'
              obtain ⟨h7, h8, h9⟩ := h6'
              have hd : rows.map sndM ++ [d2] = ps.map Part.data := Option.some.inj h
              obtain ⟨ps1, ps2, rfl, hd1, hd2⟩ := List.map_eq_append_iff.mp hd.symm
              obtain ⟨b, ps3, rfl, hb, hd3⟩ := List.map_eq_cons_iff.mp hd2
              have : ps3 = [] := by simpa using hd3
              subst this
              obtain ⟨rr, q1, q2, q3, q4⟩ := rows_decode h9 hd1.symm
              refine ⟨.letp rr b, ?_, ⟨by omega, fun z => by rw [z] at q4; simp at q4; omega, q3, Rows.shape_parts fun p hp => hs p (by rw [q2] at hp; simp [hp]), hs b (by simp)⟩, by show rr.parts ++ [b] = _; rw [q2]⟩
              show PyData.tuple [.str "let", .tuple rr.datas, b.data] = _
              rw [q1, hb]
            | _ => cases h6
          · cases h
  · cases h
theorem kidsM_eq (s : Str) (d : PyData) (r : List PyData) : kidsM (.tuple (.str s :: d :: r)) = (if s = "number" ∧ r.length = 0 ∧ smallM d = true then some []
    else if (s = "name" ∨ s = "fun") ∧ r.length = 0 ∧ nameM d = true then some []
    else if argsM s = some (r.length + 1) then some (d :: r)
    else if s = "let" ∧ r.length = 1 ∧ rowsM d = true then some ((tupM d).map sndM ++ r)
    else none) := rfl
theorem rows_facts : ∀ r : Rows, (∀ x ∈ r.names, isName x) → r.datas.length = r.names.length ∧ r.datas.all rowM = true ∧ r.datas.map sndM = r.parts.map Part.data
  | .nil, _ => ⟨rfl, rfl, rfl⟩
  | .cons x a r, hn => by
    obtain ⟨k1, k2, k3⟩ := rows_facts r fun y hy => hn y (List.mem_cons_of_mem _ hy)
    refine ⟨congrArg (· + 1) k1, ?_, ?_⟩
    · show (rowM (.tuple [.str x, a.data]) && r.datas.all rowM) = true
      rw [k2, Bool.and_true]
      exact decide_eq_true (hn x List.mem_cons_self)
    · show a.data :: r.datas.map sndM = a.data :: r.parts.map Part.data
      rw [k3]
theorem w_num (k : K1) : k.word ≠ "number" ∧ k.word ≠ "name" ∧ k.word ≠ "fun" := by cases k <;> decide +kernel
theorem w_num2 (k : K2) : k.word ≠ "number" ∧ k.word ≠ "name" ∧ k.word ≠ "fun" := by cases k <;> decide +kernel
theorem w_when : ("when" : Str) ≠ "number" ∧ ("when" : Str) ≠ "name" ∧ ("when" : Str) ≠ "fun" := by decide +kernel
theorem w_let : ("let" : Str) ≠ "number" ∧ ("let" : Str) ≠ "name" ∧ ("let" : Str) ≠ "fun" := by decide +kernel
theorem w_name : ("name" : Str) ≠ "number" ∧ ("fun" : Str) ≠ "number" := by decide +kernel
theorem args_let : argsM "let" = none := by decide +kernel
theorem kidsM_big {s : Str} {d : PyData} {r : List PyData} (h : s ≠ "number" ∧ s ≠ "name" ∧ s ≠ "fun") (ha : argsM s = some (r.length + 1)) : kidsM (.tuple (.str s :: d :: r)) = some (d :: r) := by
  rw [kidsM_eq, if_neg (fun z => h.1 z.1), if_neg (fun z => z.1.elim h.2.1 h.2.2), if_pos ha]
theorem kidsM_data {p : Part} (h : p.shape) : kidsM p.data = some (p.kids.map Part.data) := by
  cases p with
  | num n =>
    show kidsM (.tuple [.str "number", .int n]) = _
    rw [kidsM_eq, if_pos ⟨rfl, rfl, decide_eq_true (p := n.natAbs < 10 ^ 60) h⟩]; rfl
  | name x =>
    show kidsM (.tuple [.str "name", .str x]) = _
    rw [kidsM_eq, if_neg (fun z => w_name.1 z.1), if_pos ⟨.inl rfl, rfl, decide_eq_true (p := isName x) h⟩]; rfl
  | fn x =>
    show kidsM (.tuple [.str "fun", .str x]) = _
    rw [kidsM_eq, if_neg (fun z => w_name.2 z.1), if_pos ⟨.inr rfl, rfl, decide_eq_true (p := isName x) h⟩]; rfl
  | one k a => exact kidsM_big (w_num k) (argsM_1 k)
  | two k a b => exact kidsM_big (w_num2 k) (argsM_2 k)
  | whn a b c => exact kidsM_big w_when argsM_3
  | letp r a =>
    obtain ⟨k1, k2, k3⟩ := rows_facts r h.2.2.1
    have hne : r.names.length ≠ 0 := fun e => h.2.1 (List.eq_nil_of_length_eq_zero e)
    have h4 := h.1
    have hrows : rowsM (.tuple r.datas) = true := by
      show (decide (1 ≤ r.datas.length) && (decide (r.datas.length ≤ 4) && r.datas.all rowM)) = true
      rw [k1, k2, decide_eq_true (by omega), decide_eq_true h4]; rfl
    show kidsM (.tuple [.str "let", .tuple r.datas, a.data]) = some ((r.parts ++ [a]).map Part.data)
    rw [kidsM_eq, if_neg (fun z => w_let.1 z.1), if_neg (fun z => z.1.elim w_let.2.1 w_let.2.2), if_neg (fun z => by rw [args_let] at z; cases z), if_pos ⟨rfl, rfl, hrows⟩, List.map_append]
    show some (r.datas.map sndM ++ [a.data]) = _
    rw [k3]; rfl
  | shut a => exact h.elim
/-! the pile of parts -/
def gq2 (q : Part × Nat) : PyData × Nat := (q.1.data, q.2)
theorem runB_decode : ∀ (f many : Nat) (st : List (PyData × Nat)), many ≤ 60 → runB f many st = true → ∃ qs : List (Part × Nat), qs.map gq2 = st ∧ (∀ q ∈ qs, q.1.shape ∧ q.1.deep + q.2 ≤ 13) ∧ many + dsz qs ≤ 60
  | f, many, [], hm, _ => ⟨[], rfl, fun q hq => (List.not_mem_nil hq).elim, hm⟩
  | 0, many, _ :: _, hm, h => by cases h
  | f + 1, many, (d, k) :: st, hm, h => by
    have h' : (match kidsM d with
      | none => false
      | some ks => if k > 12 ∨ many + 1 > 60 then false else runB f (many + 1) ((ks.map fun x => (x, k + 1)).reverse ++ st)) = true := h
    cases hk : kidsM d with
    | none => rw [hk] at h'; cases h'
    | some ks =>
      rw [hk] at h'
      dsimp only at h'
      by_cases hc : k > 12 ∨ many + 1 > 60
      · rw [if_pos hc] at h'; cases h'
      rw [if_neg hc] at h'
      have hk12 : k ≤ 12 := by omega
      have hm60 : many + 1 ≤ 60 := by omega
      obtain ⟨qs, e, hq, hs⟩ := runB_decode f (many + 1) _ hm60 h'
      obtain ⟨qs1, qs2, rfl, e1, e2⟩ := List.map_eq_append_iff.mp e
      have e3 : qs1.reverse.map gq2 = ks.map fun x => (x, k + 1) := by rw [List.map_reverse, e1, List.reverse_reverse]
      have e4 : ks = (qs1.reverse.map (·.1)).map Part.data := by
        have := congrArg (List.map Prod.fst) e3
        rw [List.map_map, List.map_map] at this
        rw [List.map_map]
        simpa [Function.comp_def, gq2] using this.symm
      have e5 : ∀ q ∈ qs1.reverse, q.2 = k + 1 := by
        intro q hq
        have := List.mem_map_of_mem (f := gq2) hq
        rw [e3] at this
        obtain ⟨x, _, hx⟩ := List.mem_map.mp this
        exact (congrArg Prod.snd hx).symm
      obtain ⟨p, hp1, hp2, hp3⟩ := kidsM_decode hk e4 fun p hp => by
        obtain ⟨q, hqm, rfl⟩ := List.mem_map.mp hp
        exact (hq q (List.mem_append.mpr (.inl (List.mem_reverse.mp hqm)))).1
      refine ⟨(p, k) :: qs2, by rw [List.map_cons, e2]; show (p.data, k) :: st = _; rw [hp1], fun q hqm => ?_, ?_⟩
      · rcases List.mem_cons.mp hqm with rfl | hqm
        · refine ⟨hp2, ?_⟩
          show p.deep + k ≤ 13
          rw [p.mxd_kids, hp3]
          have : mxd (qs1.reverse.map (·.1)) ≤ 12 - k := by
            refine mxd_le fun x hx => ?_
            obtain ⟨q, hqm, rfl⟩ := List.mem_map.mp hx
            have h1 := (hq q (List.mem_append.mpr (.inl (List.mem_reverse.mp hqm)))).2
            have h2 := e5 q hqm
            omega
          omega
        · exact hq q (List.mem_append.mpr (.inr hqm))
      · show many + (p.size + dsz qs2) ≤ 60
        rw [dsz_app] at hs
        have : p.size = 1 + dsz qs1 := by
          rw [p.sz_kids, hp3, List.map_reverse, sz_rev]
          congr 1
          clear hs hq e e1 e3 e4 e5 hp3
          induction qs1 with
          | nil => rfl
          | cons q qs ih => obtain ⟨a, b⟩ := q; show a.size + sz _ = a.size + dsz qs; rw [ih]
        omega
theorem runB_true : ∀ (f many : Nat) (qs : List (Part × Nat)), f + many = 61 → (∀ q ∈ qs, q.1.shape ∧ q.1.deep + q.2 ≤ 13) → many + dsz qs ≤ 60 → runB f many (qs.map gq2) = true
  | f, many, [], _, _, _ => by cases f <;> rfl
  | 0, many, q :: qs, h, _, hs => by omega
  | f + 1, many, (p, k) :: qs, h, hq, hs => by
    have hs' : many + (p.size + dsz qs) ≤ 60 := hs
    have hp := hq (p, k) List.mem_cons_self
    have hd : p.deep + k ≤ 13 := hp.2
    have hmx := p.mxd_kids
    have hsz := p.sz_kids
    show (match kidsM p.data with
      | none => false
      | some ks => if k > 12 ∨ many + 1 > 60 then false else runB f (many + 1) ((ks.map fun x => (x, k + 1)).reverse ++ qs.map gq2)) = true
    rw [kidsM_data hp.1]
    dsimp only
    rw [if_neg (by omega)]
    have e : ((p.kids.map Part.data).map fun x => (x, k + 1)).reverse ++ qs.map gq2 = ((p.kids.map fun x => (x, k + 1)).reverse ++ qs).map gq2 := by
      rw [List.map_append, List.map_reverse, List.map_map, List.map_map]; rfl
    rw [e]
    refine runB_true f (many + 1) _ (by omega) (fun q hqm => ?_) ?_
    · rcases List.mem_append.mp hqm with hqm | hqm
      · obtain ⟨x, hx, rfl⟩ := List.mem_map.mp (List.mem_reverse.mp hqm)
        have := mxd_mem hx
        exact ⟨hp.1.kids x hx, by show x.deep + (k + 1) ≤ 13; omega⟩
      · exact hq q (List.mem_cons_of_mem _ hqm)
    · have e2 : dsz ((p.kids.map fun x => (x, k + 1)).reverse) = sz p.kids := by rw [← List.map_reverse, dsz_map, sz_rev]
      rw [dsz_app, e2]
      omega
theorem bodyM_decode {d : PyData} (h : bodyM d = true) : ∃ p : Part, d = p.data ∧ p.bd := by
  obtain ⟨qs, e, hq, hs⟩ := runB_decode 61 0 [(d, 1)] (by omega) h
  obtain ⟨q, qs', rfl, e1, e2⟩ := List.map_eq_cons_iff.mp e
  obtain ⟨p, k⟩ := q
  have h1 : p.data = d := congrArg Prod.fst e1
  have h2 : k = 1 := congrArg Prod.snd e1
  have h3 := hq (p, k) List.mem_cons_self
  have h4 : p.deep + k ≤ 13 := h3.2
  have h5 : 0 + (p.size + dsz qs') ≤ 60 := hs
  exact ⟨p, h1.symm, h3.1, by omega, by omega⟩
theorem bodyM_true {p : Part} (h : p.bd) : bodyM p.data = true := runB_true 61 0 [(p, 1)] rfl (fun q hq => by rw [List.mem_singleton.mp hq]; exact ⟨h.shape, by show p.deep + 1 ≤ 13; have := h.deep; omega⟩) (by show 0 + (p.size + 0) ≤ 60; have := h.size; omega)
structure Fn1.bd (f : Fn1) : Prop where
  nm : isName f.name
  few : f.things.length ≤ 4
  th : ∀ x ∈ f.things, isName x
  body : f.body.bd
structure Prog.bd (P : Prog) : Prop where
  few : P.fs.length ≤ 8
  fs : ∀ f ∈ P.fs, f.bd
  asked : P.asked.bd
theorem names_true {ss : List Str} (h : ∀ x ∈ ss, isName x) : (ss.map PyData.str).all nameM = true := by
  rw [List.all_eq_true]
  intro d hd
  obtain ⟨s, hs, rfl⟩ := List.mem_map.mp hd
  exact decide_eq_true (h s hs)
theorem functionM_true {f : Fn1} (h : f.bd) : functionM f.data = true := by
  show (nameM (.str f.name) && (decide ((f.things.map PyData.str).length ≤ 4) && ((f.things.map PyData.str).all nameM && bodyM f.body.data))) = true
  rw [names_true h.th, bodyM_true h.body, List.length_map, decide_eq_true h.few]
  show (decide (isName f.name) && (true && (true && true))) = true
  rw [decide_eq_true h.nm]; rfl
theorem builtM_true {P : Prog} (h : P.bd) : builtM P.data = true := by
  show (decide ((P.fs.map Fn1.data).length ≤ 8) && ((P.fs.map Fn1.data).all functionM && bodyM P.asked.data)) = true
  rw [bodyM_true h.asked, List.length_map, decide_eq_true h.few, Bool.and_true, Bool.true_and, List.all_eq_true]
  intro d hd
  obtain ⟨s, hs, rfl⟩ := List.mem_map.mp hd
  exact functionM_true (h.fs s hs)
theorem Prog.fine.bd {P : Prog} (h : P.fine) : P.bd := ⟨h.few, fun f hf => ⟨(h.fs f hf).nm, (h.fs f hf).few, (h.fs f hf).th, (h.fs f hf).body.bd⟩, h.asked.bd⟩

/-! ### looks that raise -/
mutual
def tpB : PyData → Bool
  | .none => true
  | .bool _ => true
  | .int _ => true
  | .str _ => true
  | .tuple ds => tpsB ds
  | .list _ => false
  | .dict _ => false
def tpsB : List PyData → Bool
  | [] => true
  | d :: ds => tpB d && tpsB ds
end
mutual
theorem Gq.tp {H : Hp} : ∀ {d : PyData} {v : V}, Gq H v d → tpB d = true → Tp H v d
  | .none, _, h, _ => by cases h; exact .non
  | .bool b, _, h, _ => by cases h; exact .bl b
  | .int i, _, h, _ => by cases h; exact .int i
  | .str x, _, h, _ => by cases h; exact .str x
  | .tuple ds, _, h, e => by
    cases h with
    | tup ea r => exact .tup ea (Gqs.tp r e)
  | .list ds, _, _, e => by cases e
  | .dict ds, _, _, e => by cases e
theorem Gqs.tp {H : Hp} : ∀ {ds : List PyData} {vs : List V}, Gqs H vs ds → tpsB ds = true → Tps H vs ds
  | [], _, h, _ => by cases h; exact .nil
  | d :: ds, _, h, e => by
    have e' : (tpB d && tpsB ds) = true := e
    rw [Bool.and_eq_true] at e'
    cases h with
    | cons a b => exact .cons (Gq.tp a e'.1) (Gqs.tp b e'.2)
end
mutual
theorem Part.tpB : ∀ p : Part, tpB p.data = true
  | .num n => rfl
  | .name x => rfl
  | .fn f => rfl
  | .one k a => by show (true && (Lz.tpB a.data && true)) = true; rw [Part.tpB a]; rfl
  | .two k a b => by show (true && (Lz.tpB a.data && (Lz.tpB b.data && true))) = true; rw [Part.tpB a, Part.tpB b]; rfl
  | .whn a b c => by show (true && (Lz.tpB a.data && (Lz.tpB b.data && (Lz.tpB c.data && true)))) = true; rw [Part.tpB a, Part.tpB b, Part.tpB c]; rfl
  | .letp r a => by show (true && (tpsB r.datas && (Lz.tpB a.data && true))) = true; rw [Rows.tpB r, Part.tpB a]; rfl
  | .shut a => by show (true && (Lz.tpB a.data && true)) = true; rw [Part.tpB a]; rfl
theorem Rows.tpB : ∀ r : Rows, tpsB r.datas = true
  | .nil => rfl
  | .cons x a r => by show ((true && (Lz.tpB a.data && true)) && tpsB r.datas) = true; rw [Part.tpB a, Rows.tpB r]; rfl
end
theorem tpsB_all : ∀ {ds : List PyData}, (∀ d ∈ ds, Lz.tpB d = true) → tpsB ds = true
  | [], _ => rfl
  | d :: ds, h => by show (Lz.tpB d && tpsB ds) = true; rw [h d List.mem_cons_self, tpsB_all fun x hx => h x (List.mem_cons_of_mem _ hx)]; rfl
theorem Fn1.tpB (f : Fn1) : Lz.tpB f.data = true := by
  show (true && (tpsB (f.things.map PyData.str) && (Lz.tpB f.body.data && true))) = true
  rw [Part.tpB, tpsB_all fun d hd => by obtain ⟨s, _, rfl⟩ := List.mem_map.mp hd; rfl]; rfl
theorem Prog.tpB (P : Prog) : Lz.tpB P.data = true := by
  show (tpsB (P.fs.map Fn1.data) && (Lz.tpB P.asked.data && true)) = true
  rw [Part.tpB, tpsB_all fun d hd => by obtain ⟨s, _, rfl⟩ := List.mem_map.mp hd; exact s.tpB]; rfl
/-! the model -/
def dupG : List Str → List Str → Option Str
  | _, [] => none
  | seen, x :: r => if x ∈ seen then some x else dupG (seen ++ [x]) r
theorem dupG_nodup : ∀ {seen r : List Str}, (seen ++ r).Nodup → dupG seen r = none
  | _, [], _ => rfl
  | seen, x :: r, h => by
    show (if x ∈ seen then some x else dupG (seen ++ [x]) r) = none
    rw [if_neg fun hx => (List.nodup_append.mp h).2.2 x hx x List.mem_cons_self rfl]
    exact dupG_nodup (by rw [List.append_assoc]; exact h)
theorem dup_at {ns : List Str} {i : Nat} (hi : i < ns.length) : dupG (ns.take i) (ns.drop i) = if ns[i] ∈ ns.take i then some ns[i] else dupG (ns.take (i + 1)) (ns.drop (i + 1)) := by
  rw [List.drop_eq_getElem_cons hi, List.take_succ_eq_append_getElem hi]; rfl
mutual
def Part.odd (fs : List Str) : List Str → Part → Option Str
  | _, .num _ => none
  | sc, .name x => if x ∈ sc then none else some x
  | _, .fn f => if f ∈ fs then none else some f
  | sc, .one _ a => a.odd fs sc
  | sc, .two _ a b => (a.odd fs sc).or (b.odd fs sc)
  | sc, .whn a b c => (a.odd fs sc).or ((b.odd fs sc).or (c.odd fs sc))
  | sc, .letp r a => (r.odd fs (sc ++ r.names)).or (a.odd fs (sc ++ r.names))
  | _, .shut _ => none
def Rows.odd (fs : List Str) : List Str → Rows → Option Str
  | _, .nil => none
  | sc, .cons _ a r => (a.odd fs sc).or (r.odd fs sc)
end
def oddL (fs sc : List Str) : List Part → Option Str
  | [] => none
  | p :: ps => (p.odd fs sc).or (oddL fs sc ps)
theorem Rows.odd_parts {fs sc : List Str} : ∀ r : Rows, r.odd fs sc = oddL fs sc r.parts
  | .nil => rfl
  | .cons _ a r => by show (a.odd fs sc).or (r.odd fs sc) = (a.odd fs sc).or (oddL fs sc r.parts); rw [Rows.odd_parts r]
theorem Part.odd_plain {fs sc : List Str} {p : Part} (hw : plainWord p.word) (hs : p.word ≠ "shut") : p.odd fs sc = oddL fs sc p.kids := by
  cases p with
  | one k a => show _ = (a.odd fs sc).or none; rw [Option.or_none]; rfl
  | two k a b => show _ = (a.odd fs sc).or ((b.odd fs sc).or none); rw [Option.or_none]; rfl
  | whn a b c => show _ = (a.odd fs sc).or ((b.odd fs sc).or ((c.odd fs sc).or none)); rw [Option.or_none]; rfl
  | shut a => exact absurd rfl hs
  | num n => exact absurd (show ("number" : Str) ∈ [("number" : Str), "fun", "let", "name"] from by simp) hw
  | name n => exact absurd (show ("name" : Str) ∈ [("number" : Str), "fun", "let", "name"] from by simp) hw
  | fn n => exact absurd (show ("fun" : Str) ∈ [("number" : Str), "fun", "let", "name"] from by simp) hw
  | letp r a => exact absurd (show ("let" : Str) ∈ [("number" : Str), "fun", "let", "name"] from by simp) hw
mutual
theorem Part.ok.odd {fs : List Str} : ∀ {p : Part} {sc : List Str}, p.ok fs sc → p.odd fs sc = none
  | .num n, _, _ => rfl
  | .name x, _, h => if_pos h.1
  | .fn x, _, h => if_pos h.1
  | .one _ a, _, h => Part.ok.odd (p := a) h
  | .two _ a b, sc, h => by show (a.odd fs sc).or (b.odd fs sc) = none; rw [Part.ok.odd (p := a) h.1, Part.ok.odd (p := b) h.2]; rfl
  | .whn a b c, sc, h => by show (a.odd fs sc).or ((b.odd fs sc).or (c.odd fs sc)) = none; rw [Part.ok.odd (p := a) h.1, Part.ok.odd (p := b) h.2.1, Part.ok.odd (p := c) h.2.2]; rfl
  | .letp r a, sc, h => by show (r.odd fs (sc ++ r.names)).or (a.odd fs (sc ++ r.names)) = none; rw [Rows.ok.odd (r := r) h.2.2.2.1, Part.ok.odd (p := a) h.2.2.2.2]; rfl
  | .shut _, _, h => h.elim
theorem Rows.ok.odd {fs : List Str} : ∀ {r : Rows} {sc : List Str}, r.ok fs sc → r.odd fs sc = none
  | .nil, _, _ => rfl
  | .cons _ a r, sc, h => by show (a.odd fs sc).or (r.odd fs sc) = none; rw [Part.ok.odd (p := a) h.1, Rows.ok.odd (r := r) h.2]; rfl
end
def lookF (fs : List Str) (q : List Str × Part) : Option (Str × Str) := match dupG [] (q.1 ++ q.2.rowNames) with
  | some x => some ("Hidden", x)
  | none => (q.2.odd fs q.1).map fun x => ("Stranger", x)
def lookL (fs : List Str) : List (List Str × Part) → Option (Str × Str)
  | [] => none
  | q :: qs => (lookF fs q).or (lookL fs qs)
def Prog.items (P : Prog) : List (List Str × Part) := P.fs.map (fun f => (f.things, f.body)) ++ [([], P.asked)]
def lookM (P : Prog) : Option (Str × Str) := match dupG [] P.names with
  | some x => some ("Twice", x)
  | none => lookL P.names P.items
theorem lookL_none {fs : List Str} : ∀ {qs : List (List Str × Part)}, (∀ q ∈ qs, lookF fs q = none) → lookL fs qs = none
  | [], _ => rfl
  | q :: qs, h => by show (lookF fs q).or (lookL fs qs) = none; rw [h q List.mem_cons_self, lookL_none fun x hx => h x (List.mem_cons_of_mem _ hx)]; rfl
theorem Part.fine.look {fs sc : List Str} {p : Part} (h : p.fine fs sc) (hn : sc.Nodup) : lookF fs (sc, p) = none := by
  unfold lookF
  have : (sc ++ p.rowNames).Nodup := List.nodup_append.mpr ⟨hn, h.nd, fun y hy z hz e => (h.un z hz).2 (e ▸ hy)⟩
  rw [dupG_nodup (by rw [List.nil_append]; exact this)]
  show (p.odd fs sc).map _ = none
  rw [Part.ok.odd h.ok]; rfl
theorem Prog.fine.look {P : Prog} (h : P.fine) : lookM P = none := by
  unfold lookM
  rw [dupG_nodup (by rw [List.nil_append]; exact h.nd)]
  refine lookL_none fun q hq => ?_
  rcases List.mem_append.mp hq with hq | hq
  · obtain ⟨f, hf, rfl⟩ := List.mem_map.mp hq
    exact (h.fs f hf).body.look (h.fs f hf).nd
  · rw [List.mem_singleton.mp hq]
    exact h.asked.look List.nodup_nil
/-! the walks -/
/-- an error of a class with its name -/
def Raised (K : PySem.W.Frag) (c x : Str) (E : XK) (H : Hp) : Prop := ∀ (dd : Addr) (H' : Hp), H dd = none → H' dd = some (.xd [("name", .str x)]) → Same H H' → E (.ref (He.ga K c)) (some dd) H'
theorem Raised.mono {K : PySem.W.Frag} {c x : Str} {E : XK} {H H1 : Hp} (h : Raised K c x E H) (s : Same H H1) : Raised K c x E H1 := fun dd H' n e s' => h dd H' (s.free n) e (s.trans s')
theorem g_raiseN {K : PySem.W.Frag} {c x : Str} {E : XK} {H : Hp} (q : Raised K c x E H) : RaiseR (He.ga K c) (spXInit K (He.ga K c) "name") E [.str x] H := g_raise1 fun d H' n e s => q d H' n e s
theorem pure_initTwice {K : PySem.W.Frag} {w : World} (e : Errs K) : PureOk 2 (spXInit K (He.ga K "Twice") "name") (t_Twice___init__ K w) 2 := by
  refine ⟨fun vs H Q E ⟨_, _, e, _⟩ => by rw [e]; rfl, ?_⟩
  rintro vs H Q E ⟨a, v, rfl, ha, q⟩
  exact g_ost1 e.o_Twice e.s.ti.nm ⟨v, rfl, .ref a, rfl, rfl, ha, q⟩ (fun h ⟨v, e, q⟩ => ⟨v, e, h _ _ q⟩) (fun h ⟨v, e, q⟩ => ⟨v, e, h _ _ q⟩)
theorem pure_initHidden {K : PySem.W.Frag} {w : World} (e : Errs K) : PureOk 2 (spXInit K (He.ga K "Hidden") "name") (t_Hidden___init__ K w) 2 := by
  refine ⟨fun vs H Q E ⟨_, _, e, _⟩ => by rw [e]; rfl, ?_⟩
  rintro vs H Q E ⟨a, v, rfl, ha, q⟩
  exact g_ost1 e.o_Hidden e.s.hi.nm ⟨v, rfl, .ref a, rfl, rfl, ha, q⟩ (fun h ⟨v, e, q⟩ => ⟨v, e, h _ _ q⟩) (fun h ⟨v, e, q⟩ => ⟨v, e, h _ _ q⟩)
theorem pure_initStranger {K : PySem.W.Frag} {w : World} (e : Errs K) : PureOk 2 (spXInit K (He.ga K "Stranger") "name") (t_Stranger___init__ K w) 2 := by
  refine ⟨fun vs H Q E ⟨_, _, e, _⟩ => by rw [e]; rfl, ?_⟩
  rintro vs H Q E ⟨a, v, rfl, ha, q⟩
  exact g_ost1 e.o_Stranger e.s.si.nm ⟨v, rfl, .ref a, rfl, rfl, ha, q⟩ (fun h ⟨v, e, q⟩ => ⟨v, e, h _ _ q⟩) (fun h ⟨v, e, q⟩ => ⟨v, e, h _ _ q⟩)
def spUnlikeX (K : PySem.W.Frag) : Sp := fun vs H Q E => ∃ (l : Addr) (ns : List Str), vs = [.ref l] ∧ H l = some (.lst (ns.map V.str)) ∧ ns.length ≤ 1000 ∧ (dupG [] ns = none → ∀ H', Same H H' → Q .non H') ∧ ∀ x, dupG [] ns = some x → Raised K "Hidden" x E H
theorem pure_unlikeX {K : PySem.W.Frag} {w : World} : PureOkX 1 (spUnlikeX K) (tx_look_unlike K w (spXInit K (He.ga K "Hidden") "name")) 2 := by
  refine ⟨fun vs H Q E ⟨_, _, e, _⟩ => by rw [e]; rfl, ?_⟩
  rintro vs H Q E ⟨l, ns, rfl, el, hl, qn, qe⟩
  show tx_look_unlike K w _ E _ [some (.ref l), none] H
  unfold tx_look_unlike
  walk_at "gg"
  have hj : ((ns.map V.str).length : Int).toNat = ns.length := by rw [List.length_map]; omega
  refine g_isrng (by omega) (by rw [List.length_map]; omega) ?_
  rw [hj]
  refine for_any ns.length (fun i σ H' => ∃ x1, σ = [some (.ref l), x1] ∧ Same H H' ∧ dupG (ns.take i) (ns.drop i) = dupG [] ns) ⟨_, rfl, .refl _, rfl⟩ (fun i σ H' hi _ => hi) (fun σ H' _ => Nat.le_refl _) ?_ ?_
  · rintro i x σ _ H1 hi ⟨x1, rfl, s1, hd⟩ ⟨rfl, rfl⟩
    have el1 := s1 _ _ el
    have hg : ns[i]? = some ns[i] := List.getElem?_eq_getElem hi
    rw [dup_at hi] at hd
    walk_at "gg"
    rw [Int.zero_add]
    refine g_ixL (.of el1) (v := .str ns[i]) (atI_of (by omega) (by rw [Int.toNat_natCast, List.getElem?_map, hg]; rfl)) ?_
    walk_at "gg"
    refine g_slL (.of el1) ?_
    rw [cut_to]
    walk_at "gg"
    rename_i l2 H2 n2 e2 s2
    refine g_inL (ss := ns.take i) (.of e2) ?_
    walk_at "gg"
    by_cases hm : ns[i] ∈ ns.take i
    · rw [if_pos hm] at hd
      refine g_T (decide_eq_true hm) ?_
      walk_at "gg"
      refine g_ixL (.of (s2 _ _ el1)) (v := .str ns[i]) (atI_of (by omega) (by rw [Int.toNat_natCast, List.getElem?_map, hg]; rfl)) ?_
      walk_at "gg"
      exact g_raiseN ((qe _ hd.symm).mono (s1.trans s2))
    · rw [if_neg hm] at hd
      refine g_F (decide_eq_false hm) ?_
      walk_at "gg"
      exact ⟨_, rfl, s1.trans s2, hd⟩
  · rintro σ H1 ⟨x1, rfl, s1, hd⟩
    rw [List.drop_length] at hd
    exact qn hd.symm H1 s1
def spNamedX (K : PySem.W.Frag) (m : Nat) : Sp := fun vs H Q E => ∃ (v : V) (kl fl : Addr) (p : Part) (fs sc : List Str), vs = [v, .ref kl, .ref fl] ∧ Tp H v p.data ∧ p.shape ∧ p.deep ≤ m ∧ p.size ≤ 60 ∧ H kl = some (.lst (sc.map V.str)) ∧ H fl = some (.lst (fs.map V.str)) ∧ sc.length + 4 * m ≤ 100 ∧
  (p.odd fs sc = none → ∀ H', Same H H' → Q .non H') ∧ ∀ x, p.odd fs sc = some x → Raised K "Stranger" x E H
theorem oddL_at {fs sc : List Str} {ps : List Part} {i : Nat} {p : Part} (h : ps[i]? = some p) : oddL fs sc (ps.drop i) = (p.odd fs sc).or (oddL fs sc (ps.drop (i + 1))) := by
  obtain ⟨h1, h2⟩ := List.getElem?_eq_some_iff.mp h
  rw [List.drop_eq_getElem_cons h1, h2]; rfl
theorem pure_namedX {K : PySem.W.Frag} {w : World} (T : KTab K w (He.ga K "PARTS") PARTSkvs) {m : Nat} : PureOkX 3 (spNamedX K (m + 1)) (tx_look_named K w (spXInit K (He.ga K "Stranger") "name") (spNamedX K m)) 6 := by
  refine ⟨fun vs H Q E ⟨_, _, _, _, _, _, e, _⟩ => by rw [e]; rfl, ?_⟩
  rintro vs H Q E ⟨v, kl, fl, p, fs, sc, rfl, t, hok, hdp, hz, ek, ef, hlen, qn, qe⟩
  show tx_look_named K w _ _ E _ [some v, some (.ref kl), some (.ref fl), none, none, none] H
  unfold tx_look_named
  have hdk := p.mxd_kids
  have hsk := p.sz_kids
  rcases word_cases p with ⟨n, rfl⟩ | ⟨x, rfl⟩ | ⟨f, rfl⟩ | ⟨r, b, rfl⟩ | ⟨b, rfl⟩ | ⟨hw, hs⟩
  · obtain ⟨a, u1, u2, rfl, ea, t1, t2⟩ := t.two
    rw [t1.str_inv] at ea
    walk_at "gg"
    exact qn rfl H (.refl _)
  · obtain ⟨a, u1, u2, rfl, ea, t1, t2⟩ := t.two
    rw [t1.str_inv, t2.str_inv] at ea
    walk_at "gg"
    refine g_notInL (ss := sc) (.of ek) ?_
    walk_at "gg"
    by_cases hx : x ∈ sc
    · refine g_F (by rw [decide_eq_true hx]; rfl) ?_
      walk_at "gg"
      exact qn (if_pos hx) H (.refl _)
    · refine g_T (by rw [decide_eq_false hx]; rfl) ?_
      walk_at "gg"
      exact g_raiseN (qe _ (if_neg hx))
  · obtain ⟨a, u1, u2, rfl, ea, t1, t2⟩ := t.two
    rw [t1.str_inv, t2.str_inv] at ea
    walk_at "gg"
    refine g_notInL (ss := fs) (.of ef) ?_
    walk_at "gg"
    by_cases hx : f ∈ fs
    · refine g_F (by rw [decide_eq_true hx]; rfl) ?_
      walk_at "gg"
      exact qn (if_pos hx) H (.refl _)
    · refine g_T (by rw [decide_eq_false hx]; rfl) ?_
      walk_at "gg"
      exact g_raiseN (qe _ (if_neg hx))
  · obtain ⟨a, u1, u2, u3, rfl, ea, t1, t2, t3⟩ := t.three
    rw [t1.str_inv] at ea
    obtain ⟨ra, rs, rfl, er, tr⟩ := t2.tup_inv
    have hrl : rs.length = r.names.length := by rw [tr.length, r.len, Rows.list_names, Rows.list_parts, List.length_map, List.length_map]
    have hrp : rs.length = r.parts.length := by rw [tr.length, r.len]
    have hfew := hok.1
    walk_at "gg"
    refine g_seqT ?_
    walk_at "gg"
    refine lc_mapT er (by omega) (fun i y H' => ∃ nm, r.names[i]? = some nm ∧ y = .str nm) (fun i y H H' k h => h) ?_ ?_
    · intro j y H' Nx hy s hN
      obtain ⟨d, hd, ty⟩ := tr.get hy
      obtain ⟨nm, p2, hnm, hp2, rfl⟩ := Rows.get hd
      obtain ⟨a2, u1, u2, rfl, ea2, tn, tp⟩ := ty.two
      rw [tn.str_inv] at ea2
      walk_at "gg"
      refine ⟨rfl, ?_⟩
      walk_at "gg"
      exact hN _ _ (.refl _) ⟨nm, hnm, rfl⟩
    · intro D ys H2 nD eD hys hF s2
      have hys2 : ys = r.names.map V.str := by
        refine List.ext_getElem? fun i => ?_
        cases e : ys[i]? with
        | none =>
          rw [List.getElem?_eq_none_iff] at e
          rw [List.getElem?_eq_none (by rw [List.length_map]; omega)]
        | some y =>
          obtain ⟨nm, hq, rfl⟩ := hF i y e
          rw [List.getElem?_map, hq]
          rfl
      subst hys2
      refine g_addL (s2 _ _ ek) eD (by simp only [List.length_map]; show _ ≤ 16777216; omega) ?_
      walk_at "gg"
      rename_i il H3 n3 e3 s3
      rw [← List.map_append] at e3
      have s03 := s2.trans s3
      have ea3 := s03 _ _ ea
      have er3 := s03 _ _ er
      have tr3 := tr.mono (Same.tk s03)
      have ef3 := s03 _ _ ef
      have t33 := t3.mono (Same.tk s03)
      have hokr : r.shape := hok.2.2.2.1
      have hokb : b.shape := hok.2.2.2.2
      have hli : (sc ++ r.names).length + 4 * m ≤ 100 := by rw [List.length_append]; omega
      have hpk : ∀ p2 ∈ r.parts, p2 ∈ (Part.letp r b).kids := fun p2 h => List.mem_append.mpr (.inl h)
      have hbk : b ∈ (Part.letp r b).kids := List.mem_append.mpr (.inr (by simp))
      have hodd : (Part.letp r b).odd fs sc = (oddL fs (sc ++ r.names) r.parts).or (b.odd fs (sc ++ r.names)) := by rw [← Rows.odd_parts]; rfl
      rw [hodd] at qn qe
      clear ea er tr ef t3 s2 s3 eD nD t t2 hodd
      walk_at "gg"
      refine g_seqT ?_
      walk_at "gg"
      refine for_T (xs := rs) (fun i σ H' => ∃ x4 x5, σ = [some (.ref a), some (.ref kl), some (.ref fl), some (.ref il), x4, x5] ∧ Same H3 H' ∧ (oddL fs (sc ++ r.names) (r.parts.drop i)).or (b.odd fs (sc ++ r.names)) = (oddL fs (sc ++ r.names) r.parts).or (b.odd fs (sc ++ r.names)))
        (fun i σ H' ⟨_, _, _, s, _⟩ => s _ _ er3) ⟨_, _, rfl, .refl _, rfl⟩ ?_ ?_
      · rintro i x σ H4 hx ⟨x4, x5, rfl, s4, ho⟩
        obtain ⟨d, hd, tx⟩ := tr3.get hx
        obtain ⟨nm, p2, hnm, hp2, rfl⟩ := Rows.get hd
        obtain ⟨a2, u1, u2, rfl, ea2, tn, tp⟩ := tx.two
        have hm2 := List.mem_of_getElem? hp2
        have := mxd_mem (hpk p2 hm2)
        have := sz_mem (hpk p2 hm2)
        rw [oddL_at hp2] at ho
        walk_at "gg"
        refine ⟨u2, il, fl, p2, fs, sc ++ r.names, rfl, tp.mono (Same.tk s4), Rows.parts_shape hokr p2 hm2, by omega, by omega, s4 _ _ e3, s4 _ _ ef3, hli, fun hno H5 s5 => ?_, fun z hz => ?_⟩
        · rw [hno, Option.none_or] at ho
          exact ⟨_, _, rfl, s4.trans s5, ho⟩
        · rw [hz] at ho
          exact (qe z (by rw [← ho]; rfl)).mono (s03.trans s4)
      · rintro σ H4 ⟨x4, x5, rfl, s4, ho⟩
        rw [hrp, List.drop_length] at ho
        have ho' : b.odd fs (sc ++ r.names) = (oddL fs (sc ++ r.names) r.parts).or (b.odd fs (sc ++ r.names)) := ho
        rw [← ho'] at qn qe
        have ea4 := s4 _ _ ea3
        have := mxd_mem hbk
        have := sz_mem hbk
        walk_at "gg"
        refine ⟨u3, il, fl, b, fs, sc ++ r.names, rfl, t33.mono (Same.tk s4), hokb, by omega, by omega, s4 _ _ e3, s4 _ _ ef3, hli, fun hno H5 s5 => ?_, fun z hz => (qe z hz).mono (s03.trans s4)⟩
        exact qn hno H5 (s03.trans (s4.trans s5))
  · exact hok.elim
  · obtain ⟨a, xs, rfl, ea, tx⟩ := t.part
    rw [Part.args_subs hw, subs_kids hw hs] at tx
    rw [Part.odd_plain hw hs] at qn qe
    have hxl : xs.length = p.kids.length := by rw [tx.length, List.length_map]
    have hkl := sz_len p.kids
    walk_at "gg"
    refine g_F (decide_eq_false (not_name hw)) ?_
    walk_at "gg"
    refine g_F (decide_eq_false fun e => hw (by rw [e]; simp)) ?_
    walk_at "gg"
    refine g_F (decide_eq_false fun e => hw (by rw [e]; simp)) ?_
    walk_at "gg"
    refine g_inK T (r := true) (PARTS_in hw hs) ?_
    walk_at "gg"
    refine g_seqT ?_
    walk_at "gg"
    refine g_slT (.of ea) (not_whole (by simp)) fun p2 H2 n2 e2 s2 => ?_
    rw [cut_tail] at e2
    refine g_isT (.of e2) ?_
    refine for_T (xs := xs) (fun i σ H' => ∃ x5, σ = [some (.ref a), some (.ref kl), some (.ref fl), none, none, x5] ∧ Same H2 H' ∧ oddL fs sc (p.kids.drop i) = oddL fs sc p.kids) (fun i σ H' ⟨_, _, s, _⟩ => s _ _ e2) ⟨_, rfl, .refl _, rfl⟩ ?_ ?_
    · rintro i x σ H3 hx ⟨x5, rfl, s3, ho⟩
      obtain ⟨d, hd, tx'⟩ := tx.get hx
      rw [List.getElem?_map] at hd
      obtain ⟨p2, hp2, rfl⟩ := Option.map_eq_some_iff.mp hd
      have hm2 := List.mem_of_getElem? hp2
      have := mxd_mem hm2
      have := sz_mem hm2
      have s23 := s2.trans s3
      rw [oddL_at hp2] at ho
      walk_at "gg"
      refine ⟨x, kl, fl, p2, fs, sc, rfl, tx'.mono (Same.tk s23), hok.kids p2 hm2, by omega, by omega, s23 _ _ ek, s23 _ _ ef, by omega, fun hno H4 s4 => ?_, fun z hz => ?_⟩
      · rw [hno, Option.none_or] at ho
        exact ⟨_, rfl, s3.trans s4, ho⟩
      · rw [hz] at ho
        exact (qe z (by rw [← ho]; rfl)).mono s23
    · rintro σ H3 ⟨x5, rfl, s3, ho⟩
      rw [hxl, List.drop_length] at ho
      exact qn ho.symm H3 (s2.trans s3)
theorem lookL_at {fs : List Str} {qs : List (List Str × Part)} {i : Nat} {q : List Str × Part} (h : qs[i]? = some q) : lookL fs (qs.drop i) = (lookF fs q).or (lookL fs (qs.drop (i + 1))) := by
  obtain ⟨h1, h2⟩ := List.getElem?_eq_some_iff.mp h
  rw [List.drop_eq_getElem_cons h1, h2]; rfl
def spLookedX (K : PySem.W.Frag) : Sp := fun vs H Q E => ∃ (v : V) (d : PyData), vs = [v] ∧ Gq H v d ∧ (builtM d = false → ∀ H', Same H H' → E (.ref (He.ga K "NoProgram")) none H') ∧
  (builtM d = true → ∃ P : Prog, d = P.data ∧ P.bd ∧ (lookM P = none → ∀ H', Same H H' → Q v H') ∧ ∀ c x, lookM P = some (c, x) → Raised K c x E H)
theorem pure_lookedX {K : PySem.W.Frag} {w : World} : PureOkX 1 (spLookedX K) (tx_looked K w spIsBuiltX (spXInit K (He.ga K "Twice") "name") (spUnlikeX K) spRowNames (spNamedX K 12)) 6 := by
  refine ⟨fun vs H Q E ⟨_, _, e, _⟩ => by rw [e]; rfl, ?_⟩
  rintro vs H Q E ⟨v, d, rfl, t, qno, qP⟩
  show tx_looked K w _ _ _ _ _ E _ [some v, none, none, none, none, none] H
  unfold tx_looked
  walk_at "gg"
  refine ⟨v, d, rfl, t, fun H1 s1 => ?_⟩
  walk_at "gg"
  by_cases hb : builtM d = true
  rotate_left
  · have hb' : builtM d = false := by simpa using hb
    refine g_T (by rw [hb']; rfl) ?_
    walk_at "gg"
    exact qno hb' H1 s1
  refine g_F (by rw [hb]; rfl) ?_
  obtain ⟨P, rfl, hbd, qn, qe⟩ := qP hb
  have tP := t.tp P.tpB
  clear qno qP t hb
  obtain ⟨pa, fa, u, vs, rfl, epa, efa, tfs, tas⟩ := tP.prog
  have hvl : vs.length = P.fs.length := by rw [tfs.length, List.length_map]
  have hfew := hbd.few
  have epa1 := s1 _ _ epa
  have efa1 := s1 _ _ efa
  have tfs1 := tfs.mono (Same.tk s1)
  have tas1 := tas.mono (Same.tk s1)
  clear epa efa tfs tas tP
  walk_at "gg"
  refine g_seqT ?_
  walk_at "gg"
  refine lc_mapT efa1 (by omega) (fun i y H' => ∃ nm, P.names[i]? = some nm ∧ y = .str nm) (fun i y H H' k h => h) ?_ ?_
  · intro i x H' Nx hx s hN
    obtain ⟨d, hd, td⟩ := tfs1.get hx
    rw [List.getElem?_map] at hd
    obtain ⟨f, hf, rfl⟩ := Option.map_eq_some_iff.mp hd
    obtain ⟨a3, b3, u3, rfl, ea3, eb3, tu3⟩ := td.fn1
    walk_at "gg"
    refine ⟨rfl, ?_⟩
    walk_at "gg"
    exact hN _ _ (.refl _) ⟨f.name, by show (P.fs.map _)[i]? = _; rw [List.getElem?_map, hf]; rfl, rfl⟩
  intro D ys H2 nD eD hys hF s2
  have hnl : P.names.length = P.fs.length := by show (P.fs.map _).length = _; rw [List.length_map]
  have hys2 : ys = P.names.map V.str := by
    refine List.ext_getElem? fun i => ?_
    cases e : ys[i]? with
    | none =>
      rw [List.getElem?_eq_none_iff] at e
      rw [List.getElem?_eq_none (by rw [List.length_map]; omega)]
    | some y =>
      obtain ⟨nm, hq, rfl⟩ := hF i y e
      rw [List.getElem?_map, hq]
      rfl
  subst hys2
  have epa2 := s2 _ _ epa1
  have efa2 := s2 _ _ efa1
  have tfs2 := tfs1.mono (Same.tk s2)
  have tas2 := tas1.mono (Same.tk s2)
  have s02 := s1.trans s2
  clear epa1 efa1 tfs1 tas1 s1 s2 hF nD hys
  walk_at "gg"
  have hj : ((P.names.map V.str).length : Int).toNat = P.names.length := by rw [List.length_map]; omega
  refine g_isrng (by omega) (by rw [List.length_map]; omega) ?_
  rw [hj]
  refine for_any P.names.length (fun i σ H' => ∃ x5, σ = [some (.ref pa), some (.ref D), none, none, none, x5] ∧ Same H2 H' ∧ dupG (P.names.take i) (P.names.drop i) = dupG [] P.names) ⟨_, rfl, .refl _, rfl⟩ (fun i σ H' hi _ => hi) (fun σ H' _ => Nat.le_refl _) ?_ ?_
  · rintro i x σ _ H3 hi ⟨x5, rfl, s3, hdup⟩ ⟨rfl, rfl⟩
    have el1 := s3 _ _ eD
    have hg : P.names[i]? = some P.names[i] := List.getElem?_eq_getElem hi
    rw [dup_at hi] at hdup
    walk_at "gg"
    rw [Int.zero_add]
    refine g_ixL (.of el1) (v := .str P.names[i]) (atI_of (by omega) (by rw [Int.toNat_natCast, List.getElem?_map, hg]; rfl)) ?_
    walk_at "gg"
    refine g_slL (.of el1) ?_
    rw [cut_to]
    walk_at "gg"
    rename_i l4 H4 n4 e4 s4
    refine g_inL (ss := P.names.take i) (.of e4) ?_
    walk_at "gg"
    by_cases hm : P.names[i] ∈ P.names.take i
    · rw [if_pos hm] at hdup
      refine g_T (decide_eq_true hm) ?_
      walk_at "gg"
      refine g_ixL (.of (s4 _ _ el1)) (v := .str P.names[i]) (atI_of (by omega) (by rw [Int.toNat_natCast, List.getElem?_map, hg]; rfl)) ?_
      walk_at "gg"
      exact g_raiseN ((qe "Twice" _ (by unfold lookM; rw [← hdup])).mono (s02.trans (s3.trans s4)))
    · rw [if_neg hm] at hdup
      refine g_F (decide_eq_false hm) ?_
      walk_at "gg"
      exact ⟨_, rfl, s3.trans s4, hdup⟩
  rintro σ H3 ⟨x5, rfl, s3, hdup⟩
  rw [List.drop_length] at hdup
  have hlook : lookM P = lookL P.names P.items := by unfold lookM; rw [← hdup]; rfl
  rw [hlook] at qn qe
  have epa3 := s3 _ _ epa2
  have efa3 := s3 _ _ efa2
  have tfs3 := tfs2.mono (Same.tk s3)
  have tas3 := tas2.mono (Same.tk s3)
  have eD3 := s3 _ _ eD
  have s03 := s02.trans s3
  clear epa2 efa2 tfs2 tas2 s02 s3 eD hlook hdup
  walk_at "gg"
  refine g_seqL ?_
  walk_at "gg"
  refine g_seqT ?_
  walk_at "gg"
  refine lc_mapT efa3 (by omega) (fun i y H' => ∃ c b u' f, P.fs[i]? = some f ∧ y = .ref c ∧ H' c = some (.tup [.ref b, u']) ∧ H' b = some (.tup (f.things.map V.str)) ∧ Tp H' u' f.body.data)
    (fun i y H H' k ⟨c, b, u', f, h1, h2, h3, h4, h5⟩ => ⟨c, b, u', f, h1, h2, k _ _ h3, k _ _ h4, h5.mono k⟩) ?_ ?_
  · intro i x H' Nx hx s hN
    obtain ⟨d, hd, td⟩ := tfs3.get hx
    rw [List.getElem?_map] at hd
    obtain ⟨f, hf, rfl⟩ := Option.map_eq_some_iff.mp hd
    obtain ⟨a3, b3, u3, rfl, ea3, eb3, tu3⟩ := td.fn1
    walk_at "gg"
    refine ⟨rfl, ?_⟩
    walk_at "gg"
    rename_i c4 H4 n4 e4 s4
    exact hN _ _ s4 ⟨c4, b3, u3, f, hf, rfl, e4, s4 _ _ (s _ _ eb3), (tu3.mono (Same.tk s)).mono (Same.tk s4)⟩
  intro D2 ys H4 nD2 eD2 hys hF s4
  have epa4 := s4 _ _ epa3
  have tas4 := tas3.mono (Same.tk s4)
  have eD4 := s4 _ _ eD3
  have s04 := s03.trans s4
  clear epa3 tas3 eD3 s03 s4 efa3 tfs3
  walk_at "gg"
  rename_i t5 H5 n5 e5 s5 c6 H6 n6 e6 s6 l7 H7 n7 e7 s7 l8 H8 n8 e8 s8
  have s48 : Same H4 H8 := s5.trans (s6.trans (s7.trans s8))
  have hyl : ys.length = P.fs.length := by rw [hys, hvl]
  have hitem : ∀ (i : Nat) x, (ys ++ [V.ref c6])[i]? = some x → ∃ c b u' ths bd, P.items[i]? = some (ths, bd) ∧ x = .ref c ∧ H8 c = some (.tup [.ref b, u']) ∧ H8 b = some (.tup ((ths : List Str).map V.str)) ∧ Tp H8 u' (Part.data bd) ∧ bd.bd ∧ ths.length ≤ 4 := by
    intro i x hx
    have hml : (P.fs.map fun f => (f.things, f.body)).length = ys.length := by rw [List.length_map, hyl]
    by_cases hi : i < ys.length
    · rw [List.getElem?_append_left hi] at hx
      obtain ⟨c, b, u', f, h1, h2, h3, h4, h5⟩ := hF i x hx
      have hff := hbd.fs f (List.mem_of_getElem? h1)
      exact ⟨c, b, u', f.things, f.body, by unfold Prog.items; rw [List.getElem?_append_left (by omega), List.getElem?_map, h1]; rfl, h2, s48 _ _ h3, s48 _ _ h4, h5.mono (Same.tk s48), hff.body, hff.few⟩
    · have hj := (List.getElem?_eq_some_iff.mp hx).1
      rw [List.length_append, List.length_singleton] at hj
      have hi' : i = ys.length := by omega
      subst hi'
      rw [List.getElem?_append_right (Nat.le_refl _), Nat.sub_self] at hx
      cases hx
      exact ⟨c6, t5, u, [], P.asked, by unfold Prog.items; rw [← hml, List.getElem?_append_right (Nat.le_refl _), Nat.sub_self]; rfl, rfl, s8 _ _ (s7 _ _ e6), s8 _ _ (s7 _ _ (s6 _ _ e5)), tas4.mono (Same.tk s48), hbd.asked, by decide⟩
  have hwl : (ys ++ [V.ref c6]).length = P.items.length := by unfold Prog.items; rw [List.length_append, List.length_append, List.length_map, hyl]; rfl
  have s08 := s04.trans s48
  have eD8 := s48 _ _ eD4
  clear hF eD4 tas4 epa4 e5 e6 e7 s5 s6 s7 s8 s48 n5 n6 n7 n8 s04 eD2 nD2
  generalize ys ++ [V.ref c6] = ws at *
  refine for_L (xs := ws) (fun i σ H' => ∃ x3 x4, σ = [some (.ref pa), some (.ref D), none, x3, x4, x5] ∧ Same H8 H' ∧ lookL P.names (P.items.drop i) = lookL P.names P.items) (fun i σ H' ⟨_, _, _, s, _⟩ => s _ _ e8) ⟨_, _, rfl, .refl _, rfl⟩ ?_ ?_
  rotate_left
  · rintro σ H9 ⟨x3, x4, rfl, s9, hlk⟩
    rw [hwl, List.drop_length] at hlk
    walk_at "gg"
    exact qn hlk.symm H9 (s08.trans s9)
  rintro i x σ H9 hx ⟨x3, x4, rfl, s9, hlk⟩
  obtain ⟨c, b, u', ths, bd, hit, rfl, ec, eb, tb, hb, hl4⟩ := hitem i x hx
  rw [lookL_at hit] at hlk
  have ec9 := s9 _ _ ec
  have eb9 := s9 _ _ eb
  have tb9 := tb.mono (Same.tk s9)
  have eD9 := s9 _ _ eD8
  clear ec eb tb
  walk_at "gg"
  rename_i l10 H10 n10 e10 s10
  have hrs := bd.rn_size
  have hbz := hb.size
  have hbd' := hb.deep
  refine ⟨u', bd, rfl, tb9.mono (Same.tk s10), hb.good, hb.size, fun l11 H11 n11 e11 s11 => ?_⟩
  refine g_addL (s11 _ _ e10) e11 (by simp only [List.length_map]; show _ ≤ 16777216; omega) ?_
  walk_at "gg"
  rename_i l12 H12 n12 e12 s12
  rw [← List.map_append] at e12
  have s912 := s10.trans (s11.trans s12)
  refine ⟨l12, ths ++ bd.rowNames, rfl, e12, by rw [List.length_append]; omega, fun hno H13 s13 => ?_, fun z hz => ?_⟩
  rotate_left
  · have hF2 : lookF P.names (ths, bd) = some (("Hidden" : Str), z) := by unfold lookF; rw [hz]
    rw [hF2] at hlk
    exact (qe "Hidden" z (by rw [← hlk]; rfl)).mono (s08.trans (s9.trans s912))
  have hF2 : lookF P.names (ths, bd) = (bd.odd P.names ths).map fun x => (("Stranger" : Str), x) := by unfold lookF; rw [hno]
  rw [hF2] at hlk
  have s913 := s912.trans s13
  have eb13 := s913 _ _ eb9
  have tb13 := tb9.mono (Same.tk s913)
  have eD13 := s913 _ _ eD9
  clear eb9 tb9 eD9 s10 s11 s12 s13 e10 e11 e12 n10 n11 n12 ec9 s912
  walk_at "gg"
  rename_i l14 H14 n14 e14 s14
  refine ⟨u', l14, D, bd, P.names, ths, rfl, tb13.mono (Same.tk s14), hb.shape, hb.deep, hb.size, e14, s14 _ _ eD13, by omega, fun hno2 H15 s15 => ?_, fun z hz => ?_⟩
  · rw [hno2] at hlk
    exact ⟨_, _, rfl, s9.trans (s913.trans (s14.trans s15)), by rw [← hlk]; rfl⟩
  · rw [hz] at hlk
    exact (qe "Stranger" z (by rw [← hlk]; rfl)).mono (s08.trans (s9.trans (s913.trans s14)))

/-! ### what the law tells of a look -/
def t_toldR (K : PySem.W.Frag) (w : World) : TS :=
  (tSeq (tIfS (tTest (tOp (rIsG false) (tVar 2) (tC .non))) (tRet (tIf (tTest (tOp (rEqG K) (tVar 1) (tVar 0))) (tTupN (tCons (tC (.str "")) (tCons (tC (.str "")) tNil))) (tTupN (tCons (tC (.str "another")) (tCons (tC (.str "")) tNil))))) tNext)
  (tSeq (tAsg (tLstN (tCons (tCB (rIsiX K) (tCons (tVar 2) (tCons (tC (.ref (He.ga K "NoProgram"))) tNil))) (tCons (tCB (rIsiX K) (tCons (tVar 2) (tCons (tC (.ref (He.ga K "Twice"))) tNil))) (tCons (tCB (rIsiX K) (tCons (tVar 2) (tCons (tC (.ref (He.ga K "Hidden"))) tNil))) tNil)))) (gName 4))
  (tSeq (tAsg (tOp (rAddG K) (tVar 4) (tLstN (tCons (tCB (rIsiX K) (tCons (tVar 2) (tCons (tC (.ref (He.ga K "Stranger"))) tNil))) (tCons (tCB (rIsiX K) (tCons (tVar 2) (tCons (tC (.ref (He.ga K "More"))) tNil))) (tCons (tCB (rIsiX K) (tCons (tVar 2) (tCons (tC (.ref (He.ga K "NoRows"))) tNil))) tNil))))) (gName 4))
  (tSeq (tAsg (tOp (rAddG K) (tVar 4) (tLstN (tCons (tCB (rIsiX K) (tCons (tVar 2) (tCons (tC (.ref (He.ga K "NoText"))) tNil))) (tCons (tCB (rIsiX K) (tCons (tVar 2) (tCons (tC (.ref (He.ga K "NoRow"))) tNil))) tNil)))) (gName 4))
  (tSeq (tIfS (tOr (tTest (tOp (rNeG K) (tBM K "list" (rCount K) (tVar 4) (tCons (tC (.bl true)) tNil)) (tC (.int 1)))) (tOr (tNot (tTru K (tCB (rIsiX K) (tCons (tVar 2) (tCons (tC (.ty "ValueError")) tNil))))) (tTest (tOp rGtG (tBM K "list" (rIndex K) (tVar 4) (tCons (tC (.bl true)) tNil)) (tC (.int 3)))))) (tRet (tTupN (tCons (tC (.str "none")) (tCons (tC (.str "")) tNil)))) tNext)
  (tSeq (tIfS (tTru K (tIxG K w (tVar 4) (tC (.int 0)))) (tRet (tTupN (tCons (tC (.str "program")) (tCons (tC (.str "")) tNil)))) tNext)
  (tRet (tTupN (tCons (tIxG K w (tLstN (tCons (tC (.str "program")) (tCons (tC (.str "twice")) (tCons (tC (.str "hidden")) (tCons (tC (.str "stranger")) tNil))))) (tBM K "list" (rIndex K) (tVar 4) (tCons (tC (.bl true)) tNil))) (tCons (tFldX K "name" (tVar 2)) tNil))))))))))
def wordE (c : Str) : Str := if c = "NoProgram" then "program" else if c = "Twice" then "twice" else if c = "Hidden" then "hidden" else "stranger"
theorem lookF_cls {fs : List Str} {q : List Str × Part} {c x : Str} (h : lookF fs q = some (c, x)) : c = "Hidden" ∨ c = "Stranger" := by
  unfold lookF at h
  split at h
  · cases h; exact .inl rfl
  · cases e : q.2.odd fs q.1 with
    | none => rw [e] at h; cases h
    | some y => rw [e] at h; cases h; exact .inr rfl
theorem lookL_cls {fs : List Str} {c x : Str} : ∀ {qs : List (List Str × Part)}, lookL fs qs = some (c, x) → c = "Hidden" ∨ c = "Stranger"
  | [], h => by cases h
  | q :: qs, h => by
    have h' : (lookF fs q).or (lookL fs qs) = some (c, x) := h
    cases e : lookF fs q with
    | none => rw [e, Option.none_or] at h'; exact lookL_cls h'
    | some y =>
      rw [e] at h'
      cases h'
      exact lookF_cls e
theorem lookM_cls {P : Prog} {c x : Str} (h : lookM P = some (c, x)) : c = "Twice" ∨ c = "Hidden" ∨ c = "Stranger" := by
  unfold lookM at h
  split at h
  · cases h; exact .inl rfl
  · exact .inr (lookL_cls h)
def spToldX : Sp := fun vs H Q _ => ∃ (v : V) (d : PyData), vs = [v] ∧ Gq H v d ∧ (builtM d = false → ∀ t H', Same H H' → H' t = some (.tup [.str "program", .str ""]) → Q (.ref t) H') ∧
  (builtM d = true → ∃ P : Prog, d = P.data ∧ P.bd ∧ (lookM P = none → ∀ t H', Same H H' → H' t = some (.tup [.str "", .str ""]) → Q (.ref t) H') ∧ ∀ c x, lookM P = some (c, x) → ∀ t H', Same H H' → H' t = some (.tup [.str (wordE c), .str x]) → Q (.ref t) H')
/-! ### data kept while others are made -/
theorem PenAt.tl {H H' : Hp} {pen L : Addr} (p : PenAt H pen L) (p' : PenAt H' pen L) (c : Chg pen H H') : Tl H H' := by
  obtain ⟨_, _, _, h, _⟩ := p
  obtain ⟨_, _, _, h', _⟩ := p'
  exact c.tl h h'
theorem Tl.same {H H1 H2 : Hp} (t : Tl H H1) (s : Same H1 H2) : Tl H H2 := t.trans (Same.tl s)
theorem Tl.pen {H H1 H2 : Hp} {pen L : Addr} (t : Tl H H1) (p : PenAt H1 pen L) (p' : PenAt H2 pen L) (c : Chg pen H1 H2) : Tl H H2 := t.trans (p.tl p' c)
theorem Gq.to {H H' : Hp} {v : V} {d : PyData} (h : Gq H v d) (k : Tl H H') : Gq H' v d := h.mono k
theorem Gqs.to {H H' : Hp} {vs : List V} {ds : List PyData} (h : Gqs H vs ds) (k : Tl H H') : Gqs H' vs ds := h.mono k
mutual
def shB : PyData → Bool
  | .none => true
  | .bool _ => true
  | .int _ => true
  | .str x => decide (x.length ≤ 16777216)
  | .tuple ds => shsB ds
  | .list _ => false
  | .dict _ => false
def shsB : List PyData → Bool
  | [] => true
  | d :: ds => shB d && shsB ds
end
mutual
theorem Tp.gq {H : Hp} : ∀ {d : PyData} {v : V}, Tp H v d → shB d = true → Gq H v d
  | .none, _, h, _ => by cases h; exact .non
  | .bool b, _, h, _ => by cases h; exact .bl b
  | .int i, _, h, _ => by cases h; exact .int i
  | .str x, _, h, e => by cases h; exact .str x (of_decide_eq_true (p := x.length ≤ 16777216) e)
  | .tuple ds, _, h, e => by
    cases h with
    | tup ea r => exact .tup ea (Tps.gq r e)
  | .list ds, _, h, _ => by cases h
  | .dict ds, _, h, _ => by cases h
theorem Tps.gq {H : Hp} : ∀ {ds : List PyData} {vs : List V}, Tps H vs ds → shsB ds = true → Gqs H vs ds
  | [], _, h, _ => by cases h; exact .nil
  | d :: ds, _, h, e => by
    have e' : (shB d && shsB ds) = true := e
    rw [Bool.and_eq_true] at e'
    cases h with
    | cons a b => exact .cons (Tp.gq a e'.1) (Tps.gq b e'.2)
end
theorem sh_name {x : Str} (h : isName x) : shB (.str x) = true := decide_eq_true (p := x.length ≤ 16777216) (by have := h.2.1; omega)
theorem sh_k1 (k : K1) : shB (.str k.word) = true := by cases k <;> decide +kernel
theorem sh_k2 (k : K2) : shB (.str k.word) = true := by cases k <;> decide +kernel
theorem sh_ws : shB (.str "number") = true ∧ shB (.str "name") = true ∧ shB (.str "fun") = true ∧ shB (.str "when") = true ∧ shB (.str "let") = true := by decide +kernel
mutual
theorem Part.shape.sh : ∀ {p : Part}, p.shape → shB p.data = true
  | .num n, _ => by show (shB (.str "number") && (true && true)) = true; rw [sh_ws.1]; rfl
  | .name x, h => by show (shB (.str "name") && (shB (.str x) && true)) = true; rw [sh_ws.2.1, sh_name h]; rfl
  | .fn x, h => by show (shB (.str "fun") && (shB (.str x) && true)) = true; rw [sh_ws.2.2.1, sh_name h]; rfl
  | .one k a, h => by show (shB (.str k.word) && (shB a.data && true)) = true; rw [sh_k1, Part.shape.sh (p := a) h]; rfl
  | .two k a b, h => by show (shB (.str k.word) && (shB a.data && (shB b.data && true))) = true; rw [sh_k2, Part.shape.sh (p := a) h.1, Part.shape.sh (p := b) h.2]; rfl
  | .whn a b c, h => by show (shB (.str "when") && (shB a.data && (shB b.data && (shB c.data && true)))) = true; rw [sh_ws.2.2.2.1, Part.shape.sh (p := a) h.1, Part.shape.sh (p := b) h.2.1, Part.shape.sh (p := c) h.2.2]; rfl
  | .letp r a, h => by show (shB (.str "let") && (shsB r.datas && (shB a.data && true))) = true; rw [sh_ws.2.2.2.2, Rows.shape.sh (r := r) h.2.2.2.1 h.2.2.1, Part.shape.sh (p := a) h.2.2.2.2]; rfl
  | .shut _, h => h.elim
theorem Rows.shape.sh : ∀ {r : Rows}, r.shape → (∀ x ∈ r.names, isName x) → shsB r.datas = true
  | .nil, _, _ => rfl
  | .cons x a r, h, hn => by show ((shB (.str x) && (shB a.data && true)) && shsB r.datas) = true; rw [sh_name (hn x List.mem_cons_self), Part.shape.sh (p := a) h.1, Rows.shape.sh (r := r) h.2 fun y hy => hn y (List.mem_cons_of_mem _ hy)]; rfl
end
theorem shsB_all : ∀ {ds : List PyData}, (∀ d ∈ ds, shB d = true) → shsB ds = true
  | [], _ => rfl
  | d :: ds, h => by show (shB d && shsB ds) = true; rw [h d List.mem_cons_self, shsB_all fun x hx => h x (List.mem_cons_of_mem _ hx)]; rfl
theorem Fn1.bd.sh {f : Fn1} (h : f.bd) : shB f.data = true := by
  show (shB (.str f.name) && (shsB (f.things.map PyData.str) && (shB f.body.data && true))) = true
  rw [sh_name h.nm, h.body.shape.sh, shsB_all fun d hd => by obtain ⟨s, hs, rfl⟩ := List.mem_map.mp hd; exact sh_name (h.th s hs)]; rfl
theorem Prog.bd.shs {P : Prog} (h : P.bd) : shsB (P.fs.map Fn1.data) = true := shsB_all fun d hd => by obtain ⟨f, hf, rfl⟩ := List.mem_map.mp hd; exact (h.fs f hf).sh
theorem Prog.bd.sh {P : Prog} (h : P.bd) : shB P.data = true := by
  show (shsB (P.fs.map Fn1.data) && (shB P.asked.data && true)) = true
  rw [h.shs, h.asked.shape.sh]; rfl
section
variable {K : PySem.W.Frag} {H : Hp} {Q : VK} {a b : Addr} {xs ys : List V}
end
theorem Gqs.take {H : Hp} : ∀ {xs : List V} {ds : List PyData} (n : Nat), Gqs H xs ds → Gqs H (xs.take n) (ds.take n)
  | _, _, 0, _ => .nil
  | [], _, n + 1, h => by cases h; exact .nil
  | x :: xs, _, n + 1, h => by
    cases h with
    | cons a b => exact .cons a (Gqs.take n b)
theorem Gqs.drop {H : Hp} : ∀ {xs : List V} {ds : List PyData} (n : Nat), Gqs H xs ds → Gqs H (xs.drop n) (ds.drop n)
  | _, _, 0, h => h
  | [], _, n + 1, h => by cases h; exact .nil
  | x :: xs, _, n + 1, h => by
    cases h with
    | cons a b => exact Gqs.drop n b
theorem depth_strs : ∀ ss : List Str, PyData.depthAll (ss.map PyData.str) = 0
  | [] => by rw [List.map_nil, PyData.depthAll]
  | s :: ss => by rw [List.map_cons, PyData.depthAll, depth_strs ss, PyData.depth]; rfl
theorem g_cutA {A : Prop} (C : Addr → Hp → Prop) {B : Addr → Hp → Prop} (f : (∀ l H', C l H' → B l H') → A) (b : ∀ l H', C l H' → B l H') : A := f b

local macro_rules | `(tactic| walk_at "tl") => `(tactic| first
  | assumption
  | exact Tl.refl _
  | ((with_reducible refine Tl.same (H1 := ?gh) ?gt ?gs); (case gs => assumption); walk_at "tl")
  | ((with_reducible refine Tl.pen (H1 := ?gh) (pen := ?gp) (L := ?gq) ?gt ?g1 ?g2 ?gs); (case gs => assumption); (case g1 => walk_at "pen"); (case g2 => walk_at "pen"); walk_at "tl"))
local macro_rules | `(tactic| walk_at "gqs") => `(tactic| first
  | assumption
  | exact Gqs.nil
  | exact Gqs.cons (by walk_at "gq") (by walk_at "gqs")
  | exact Gqs.to (by assumption) (by walk_at "tl"))
local macro_rules | `(tactic| walk_at "gq") => `(tactic| first
  | assumption
  | exact Gq.non
  | exact Gq.bl _
  | exact Gq.int _
  | exact Gq.str _ (by decide +kernel)
  | exact Gq.to (by assumption) (by walk_at "tl")
  | exact Gq.tup (by walk_at "at") (by walk_at "gqs")
  | exact Gq.lst (ds := []) (by walk_at "at"))

/-! ### the law's own look: names, parts of anything -/
/-- a comprehension that keeps what passes: is anything kept? -/
theorem lc_sift {K : PySem.W.Frag} {g : TG} {tt : TT} {te : TE} {vs : List Nat} {σ : L2.St} {H1 : Hp} {J : It} {Qd : Addr → Hp → Prop} (n : Nat) (f : Nat → Bool) (hJ1 : ∀ i H', i < n → Same H1 H' → J.go i H') (hJ2 : ∀ H', Same H1 H' → J.stop n H') (hl : n ≤ 100000)
    (hs : ∀ (i : Nat) x H' H'' (Na : V → Hp → Prop) (Nb : Hp → Prop), i < n → Same H1 H' → J.yld i H' x H'' → (∀ y H4, f i = true → Same H' H4 → Na y H4) → (∀ H4, f i = false → Same H' H4 → Nb H4) →
      g x (wipe σ vs) H'' fun σ2 H2 => wipe σ2 vs = wipe σ vs ∧ tt σ2 H2 fun b H3 => if b = true then te σ2 H3 Na else Nb H3)
    (hd : ∀ D ys H', Fr H1 D → H' D = some (.lst ys) → ys.isEmpty = (List.range n).all (fun i => !f i) → Same H1 H' → Qd D H') : LcR J g tt te vs σ H1 Qd := by
  intro D hD
  refine lc_any n (fun i acc H' => acc.isEmpty = (List.range i).all (fun i => !f i) ∧ Same H1 H') hD (fun H' _ s => ⟨rfl, s⟩) (fun i acc H' hi ⟨_, s⟩ => hJ1 i H' hi s) (fun acc H' ⟨_, s⟩ => hJ2 H' s) ?_ ?_
  · rintro i x acc H2 H' hi hla ⟨ha, s2⟩ hd2 hy
    refine hs i x _ _ _ _ hi s2 hy (fun y H4 hf s4 => ?_) fun H4 hf s4 => ?_
    · refine lc_step (s4 _ _ hd2) hla (by show _ < 16777216; omega) fun H5 e5 c5 => ?_
      refine ⟨?_, Same.chg (s2.trans s4) hD c5⟩
      rw [List.range_succ, List.all_append, List.all_cons, hf]
      cases acc <;> simp
    · refine ⟨acc, s4 _ _ hd2, by omega, ?_, s2.trans s4⟩
      rw [List.range_succ, List.all_append, List.all_cons, hf, ha]
      simp
  · rintro acc H' hd2 ⟨ha, s⟩
    exact hd D acc H' hD hd2 ha s
theorem range_all {α : Type} (xs : List α) (p : α → Bool) (f : Nat → Bool) (h : ∀ i x, xs[i]? = some x → f i = p x) : (List.range xs.length).all f = xs.all p := by
  rw [Bool.eq_iff_iff, List.all_eq_true, List.all_eq_true]
  constructor
  · intro hh x hx
    obtain ⟨i, hi⟩ := List.mem_iff_getElem?.mp hx
    rw [← h i x hi]
    exact hh i (List.mem_range.mpr (List.getElem?_eq_some_iff.mp hi).1)
  · intro hh i hi
    have hi' := List.mem_range.mp hi
    rw [h i _ (List.getElem?_eq_getElem hi')]
    exact hh _ (List.getElem_mem hi')
theorem pure_lnameX {K : PySem.W.Frag} {w : World} : PureOk 1 spIsNameX (t_law_is_name K w) 2 := by
  refine ⟨fun vs H Q E ⟨_, _, e, _⟩ => by rw [e]; rfl, ?_⟩
  rintro vs H Q E ⟨v, d, rfl, t, q⟩
  show t_law_is_name K w _ [some v, none] H
  unfold t_law_is_name
  walk_at "gg"
  refine g_isiStr t ?_
  walk_at "gg"
  cases d with
  | str s =>
    obtain ⟨rfl, hsl⟩ := t.str_inv
    refine g_F rfl ?_
    walk_at "gg"
    refine g_lenS hsl ?_
    walk_at "gg"
    by_cases h1 : s.length < 1
    · refine g_T (decide_eq_true (by omega)) ?_
      walk_at "gg"
      have := q H (.refl _)
      rwa [show nameM (.str s) = false from decide_eq_false (p := isName s) (fun h => by have := h.1; omega)] at this
    refine g_F (decide_eq_false (by omega)) ?_
    walk_at "gg"
    refine g_lenS hsl ?_
    walk_at "gg"
    by_cases h8 : 8 < s.length
    · refine g_T (decide_eq_true (by omega)) ?_
      have := q H (.refl _)
      rw [show nameM (.str s) = false from decide_eq_false (p := isName s) (fun h => by have := h.2.1; omega)] at this
      walk_at "gg"
      exact this
    refine g_F (decide_eq_false (by omega)) ?_
    walk_at "gg"
    refine g_seqS ?_
    walk_at "gg"
    have hsz : s.cps.toList.length = s.length := by simp [Str.length]
    refine lc_sift (K := K) s.cps.toList.length (fun i => match s.cps.toList[i]? with | some c => !alphc c | none => false) (fun i H' hi _ => by show i < s.cps.size; rw [← Array.length_toList]; exact hi) (fun H' _ => by show s.cps.size ≤ _; rw [← Array.length_toList]; exact Nat.le_refl _) (by omega) ?_ ?_
    · rintro i x H' H'' Na Nb hi s1 ⟨rfl, c', hc', rfl⟩ hA hB
      rw [← Array.getElem?_toList] at hc'
      rw [hc'] at hA hB
      walk_at "gg"
      refine ⟨rfl, ?_⟩
      walk_at "gg"
      refine .inr (.inl ⟨_, abc, rfl, rfl, ?_⟩)
      show ∃ k, V.bl (!(!(Builtin.Str.occurrences abc ⟨#[c']⟩ 0 abc.length 1).isEmpty)) = .bl k ∧ _
      rw [alph_in]
      refine ⟨_, rfl, ?_⟩
      refine g_ite (fun h => ?_) (fun h => ?_)
      · walk_at "gg"
        exact hA _ _ h (.refl _)
      · exact hB _ h (.refl _)
    · intro D ys H' nD eD hys s1
      walk_at "gg"
      rename_i l2 H2 n2 e2 s2
      rw [range_all s.cps.toList alphc _ (fun i c hc => by rw [hc]; simp)] at hys
      rw [hys]
      have := q H2 (s1.trans s2)
      rwa [show nameM (.str s) = s.cps.toList.all alphc from by
        show decide (isName s) = _
        rw [Bool.eq_iff_iff, List.all_eq_true, decide_eq_true_iff]
        unfold alphc isName
        constructor
        · rintro ⟨_, _, h⟩ c hc
          have := h c hc
          simp only [Bool.and_eq_true, decide_eq_true_iff]; omega
        · intro h
          exact ⟨by omega, by omega, fun c hc => by have := h c hc; simp only [Bool.and_eq_true, decide_eq_true_iff] at this; omega⟩] at this
  | _ =>
    refine g_T rfl ?_
    walk_at "gg"
    exact q H (.refl _)
def counts9 : List (Key × V) := [(.inr "give", .int 2), (.inr "plus", .int 2), (.inr "less", .int 2), (.inr "times", .int 2), (.inr "below", .int 2), (.inr "when", .int 3), (.inr "pair", .int 2), (.inr "left", .int 1), (.inr "right", .int 1)]
theorem counts_merge : mergeK [] counts9 = counts9 := by decide +kernel
theorem counts_val (s : Str) : valV counts9 (.inr s) = (PARTSkvs.find? fun q => decide (q.1 = s)).map (·.2) := by
  have e : counts9 = PARTSkvs.map fun q => (Sum.inr q.1, q.2) := rfl
  unfold valV
  rw [e, List.find?_map, Option.map_map]
  have e2 : ((fun kv : Key × V => decide (kv.1 = Sum.inr s)) ∘ fun q : Str × V => ((Sum.inr q.1 : Key), q.2)) = fun q => decide (q.1 = s) := by
    funext q
    exact decide_eq_decide.mpr ⟨fun h => by injection h, fun h => by show (Sum.inr q.1 : Key) = Sum.inr s; rw [h]⟩
  rw [e2]; rfl
theorem kidsM_args {s : Str} {d : PyData} {r : List PyData} (ha : argsM s = some (r.length + 1)) : kidsM (.tuple (.str s :: d :: r)) = some (d :: r) := by
  refine kidsM_big ⟨?_, ?_, ?_⟩ ha <;> (rintro rfl; revert ha; rw [show argsM _ = none from by decide +kernel]; intro h; cases h)
theorem kidsM_nam {s : Str} {d : PyData} {r : List PyData} (h : (s = "name" ∨ s = "fun") ∧ r.length = 0 ∧ nameM d = true) : kidsM (.tuple (.str s :: d :: r)) = some [] := by
  rw [kidsM_eq, if_neg (fun z => by rcases h.1 with e | e <;> (rw [e] at z; exact absurd z.1 (by decide +kernel))), if_pos h]
theorem kidsM_let {d e : PyData} (h : rowsM d = true) : kidsM (.tuple [.str "let", d, e]) = some ((tupM d).map sndM ++ [e]) := by
  rw [kidsM_eq, if_neg (fun z => w_let.1 z.1), if_neg (fun z => z.1.elim w_let.2.1 w_let.2.2), if_neg (fun z => by rw [args_let] at z; cases z), if_pos ⟨rfl, rfl, h⟩]
theorem kidsM_none {s : Str} {d : PyData} {r : List PyData} (h1 : ¬ (s = "number" ∧ r.length = 0 ∧ smallM d = true)) (h2 : ¬ ((s = "name" ∨ s = "fun") ∧ r.length = 0 ∧ nameM d = true)) (h3 : ¬ (argsM s = some (r.length + 1))) (h4 : ¬ (s = "let" ∧ r.length = 1 ∧ rowsM d = true)) :
    kidsM (.tuple (.str s :: d :: r)) = none := by
  rw [kidsM_eq, if_neg h1, if_neg h2, if_neg h3, if_neg h4]
theorem g_inDK {K : PySem.W.Frag} {w : World} {H : Hp} {Q : VK} {a : Addr} {s : Str} {kvs : List (Key × V)} (h : H a = some (.dK kvs)) (q : Q (.bl (valV kvs (.inr s)).isSome) H) : rInG K w false (.str s) (.ref a) H Q :=
  .inr (.inr (.inl ⟨a, valV kvs (.inr s), rfl, .inl ⟨kvs, .inr s, .of h, rfl, rfl⟩, q⟩))

/-! ### the law's parts of anything -/
theorem pure_linnerX {K : PySem.W.Frag} {w : World} : PureOk 1 spPartsOfX (t_law_innerX K w spIsNameX) 3 := by
  refine ⟨fun vs H Q E ⟨_, _, e, _⟩ => by rw [e]; rfl, ?_⟩
  rintro vs H Q E ⟨v, d, rfl, t, qn, qs⟩
  show t_law_innerX K w _ _ [some v, none, none] H
  unfold t_law_innerX
  walk_at "gg"
  refine g_isiTup t ?_
  walk_at "gg"
  cases d with
  | tuple ds =>
    refine g_F rfl ?_
    obtain ⟨a, xs, rfl, ea, ts⟩ := t.tup_inv
    have hl := ts.length
    walk_at "gg"
    match ds, ts, hl, qn, qs with
    | [], ts, hl, qn, qs =>
      refine g_T (decide_eq_true (by rw [hl]; show (0 : Int) < 2; decide)) ?_
      walk_at "gg"
      exact qn rfl _ (.refl _)
    | [d0], ts, hl, qn, qs =>
      refine g_T (decide_eq_true (by rw [hl]; show (1 : Int) < 2; decide)) ?_
      walk_at "gg"
      refine qn ?_ _ (.refl _)
      cases d0 <;> rfl
    | d0 :: d1 :: r, ts, hl, qn, qs =>
      refine g_F (decide_eq_false (by rw [hl]; simp only [List.length_cons]; omega)) ?_
      obtain ⟨x0, us0, rfl, t0, tsa⟩ := ts.cons_inv
      obtain ⟨x1, us, rfl, t1, tsb⟩ := tsa.cons_inv
      clear tsa ts
      have hlr := tsb.length
      walk_at "gg"
      refine g_isiStr t0 ?_
      walk_at "gg"
      cases d0 with
      | str s =>
        obtain ⟨rfl, hsl⟩ := t0.str_inv
        have hlen : ((V.str s :: x1 :: us).length : Int) = r.length + 2 := by simp only [List.length_cons, hlr]; omega
        clear hl t
        walk_at "gg"
        rename_i dd H0 n0 e0 s0
        refine g_pairs counts9 e0 rfl (by decide) ?_
        rw [counts_merge]
        walk_at "gg"
        rename_i H1 e1 c1
        have s1 : Same H H1 := Same.chg s0 n0 c1
        have ea1 := s1 _ _ ea
        have t11 := t1.mono (Same.tl s1)
        have ts1 := tsb.mono (Same.tl s1)
        clear ea t1 tsb s0 n0 e0 c1
        walk_at "gg"
        refine g_inDK e1 ?_
        rw [counts_val]
        walk_at "gg"
        refine g_cutH (fun H' => H' = H1 ∧ ¬ (argsM s = some (r.length + 1))) (B := ?B1) (fun rest => ?f1) ?b1
        case f1 =>
          cases hn : argsM s with
          | none =>
            refine g_F (by rw [Option.isSome_map, (args_find s).1, hn]; rfl) ?_
            refine g_F rfl ?_
            exact rest H1 ⟨rfl, fun z => by rw [hn] at z; cases z⟩
          | some n =>
            obtain ⟨hv, hn3, hn1⟩ := (args_find s).2 n hn
            refine g_T (by rw [Option.isSome_map, (args_find s).1, hn]; rfl) ?_
            walk_at "gg"
            refine g_ixD (k := .inr s) e1 rfl ((counts_val s).trans hv) ?_
            walk_at "gg"
            by_cases h2 : n = r.length + 1
            · refine g_T (decide_eq_true (by rw [hlen, h2]; omega)) ?_
              walk_at "gg"
              refine g_slT (.of ea1) (not_whole (by simp)) fun p2 H4 n4 e4 s4 => ?_
              rw [cut_tail] at e4
              refine g_listT (.of e4) fun l H5 nl el s5 => ?_
              have s45 := s4.trans s5
              exact qs (d1 :: r) (kidsM_args (by rw [hn, h2])) l _ H5 (s1.free (s4.free nl)) el (.cons (t11.mono (Same.tl s45)) (ts1.mono (Same.tl s45))) (s1.trans s45)
            · refine g_F (decide_eq_false (by rw [hlen]; omega)) ?_
              exact rest H1 ⟨rfl, fun z => by rw [hn] at z; cases z; exact h2 rfl⟩
        rintro H1' ⟨rfl, c1⟩
        walk_at "gg"
        rename_i tp H2 n2 e2 s2
        refine .inl ⟨tp, _, rfl, .inr (.of e2), rfl, rfl, ?_⟩
        rw [inV_two]
        walk_at "gg"
        have s02 := s1.trans s2
        have ea2 := s2 _ _ ea1
        have t12 := t11.mono (Same.tl s2)
        have ts2 := ts1.mono (Same.tl s2)
        clear ea1 t11 ts1 n2 e2
        refine g_cutH (fun H' => Same H H' ∧ Same H2 H' ∧ ¬ ((s = "name" ∨ s = "fun") ∧ r.length = 0 ∧ nameM d1 = true)) (B := ?B2) (fun rest => ?f2) ?b2
        case f2 =>
          by_cases h1 : s = "name" ∨ s = "fun"
          · refine g_T (decide_eq_true h1) ?_
            walk_at "gg"
            by_cases h2 : r.length = 0
            · refine g_T (decide_eq_true (by rw [hlen, h2]; rfl)) ?_
              walk_at "gg"
              refine ⟨x1, d1, rfl, t12, fun H3 s3 => ?_⟩
              walk_at "gg"
              by_cases h3 : nameM d1 = true
              · refine g_T h3 ?_
                walk_at "gg"
                rename_i l H4 n4 e4 s4
                exact qs [] (kidsM_nam ⟨h1, h2, h3⟩) l [] H4 (s02.free (s3.free n4)) e4 .nil (s02.trans (s3.trans s4))
              · refine g_F (by simpa using h3) ?_
                exact rest H3 ⟨s02.trans s3, s3, fun hh => h3 hh.2.2⟩
            · refine g_F (decide_eq_false (by rw [hlen]; omega)) ?_
              refine g_F rfl ?_
              exact rest H2 ⟨s02, .refl _, fun hh => h2 hh.2.1⟩
          · refine g_F (decide_eq_false h1) ?_
            refine g_F rfl ?_
            exact rest H2 ⟨s02, .refl _, fun hh => h1 hh.1⟩
        rintro H3 ⟨s03, s23, c2⟩
        have ea3 := s23 _ _ ea2
        have t13 := t12.mono (Same.tl s23)
        have ts3 := ts2.mono (Same.tl s23)
        clear ea2 t12 ts2 s1 s2 s02 s23 e1
        walk_at "gg"
        refine g_cutH (fun H' => H' = H3 ∧ ¬ (s = "number" ∧ r.length = 0 ∧ smallM d1 = true)) (B := ?B3) (fun rest => ?f3) ?b3
        case f3 =>
          by_cases h1 : s = "number"
          · refine g_T (decide_eq_true h1) ?_
            walk_at "gg"
            by_cases h2 : r.length = 0
            · refine g_T (decide_eq_true (by rw [hlen, h2]; rfl)) ?_
              walk_at "gg"
              refine g_isiInt t13 ?_
              walk_at "gg"
              by_cases h3 : wholeM d1 = true
              · obtain ⟨n, hx, hd⟩ : ∃ n, x1 = V.int n ∧ d1 = .int n := by
                  cases t13 with
                  | int n => exact ⟨n, rfl, rfl⟩
                  | _ => cases h3
                refine g_T (by rw [hd]; rfl) ?_
                walk_at "gg"
                refine g_isiBool t13 ?_
                walk_at "gg"
                refine g_T (by rw [hd]; rfl) ?_
                rw [hx] at ea3
                walk_at "gg"
                refine g_powI ⟨by decide, by decide, by decide⟩ ?_
                refine g_ltI (g_bl ?_)
                have e : decide ((n.natAbs : Int) < 10 ^ Int.toNat 60) = decide (n.natAbs < 10 ^ 60) := by
                  have : (10 : Int) ^ Int.toNat 60 = ((10 ^ 60 : Nat) : Int) := by rfl
                  rw [this]
                  exact decide_eq_decide.mpr Int.ofNat_lt
                rw [e]
                by_cases h4 : n.natAbs < 10 ^ 60
                · refine g_T (decide_eq_true h4) ?_
                  walk_at "gg"
                  rename_i l H4 n4 e4 s4
                  refine qs [] ?_ l [] H4 (s03.free n4) e4 .nil (s03.trans s4)
                  rw [kidsM_eq, if_pos ⟨h1, h2, by rw [hd]; exact decide_eq_true (p := n.natAbs < 10 ^ 60) h4⟩]
                · refine g_F (decide_eq_false h4) ?_
                  walk_at "gg"
                  refine qn (kidsM_none (fun hh => h4 (by have := hh.2.2; rw [hd] at this; exact of_decide_eq_true (p := n.natAbs < 10 ^ 60) this)) c2 c1 (fun hh => absurd (h1.symm.trans hh.1) (by decide +kernel))) _ s03
              · refine g_cutH (fun H' => H' = H3) (B := ?B5) (fun rest5 => ?f5) ?b5
                case f5 =>
                  refine g_ite (fun hi => ?_) (fun hi => ?_)
                  · walk_at "gg"
                    refine g_isiBool t13 ?_
                    walk_at "gg"
                    refine g_F (by cases d1 <;> first | rfl | exact absurd rfl h3 | cases hi) ?_
                    exact rest5 H3 rfl
                  · exact rest5 H3 rfl
                rintro H3' rfl
                exact rest H3' ⟨rfl, fun hh => h3 (by cases d1 <;> first | rfl | cases hh.2.2)⟩
            · refine g_F (decide_eq_false (by rw [hlen]; omega)) ?_
              refine g_F rfl ?_
              exact rest H3 ⟨rfl, fun hh => h2 hh.2.1⟩
          · refine g_F (decide_eq_false h1) ?_
            refine g_F rfl ?_
            exact rest H3 ⟨rfl, fun hh => h1 hh.1⟩
        rintro H3' ⟨rfl, c3⟩
        walk_at "gg"
        by_cases h1 : s = "let"
        · refine g_T (decide_eq_true h1) ?_
          walk_at "gg"
          by_cases h2 : r.length = 1
          · refine g_T (decide_eq_true (by rw [hlen, h2]; rfl)) ?_
            walk_at "gg"
            refine g_isiTup t13 ?_
            walk_at "gg"
            by_cases h3 : isTupM d1 = true
            · refine g_T h3 ?_
              walk_at "gg"
              refine g_chain ?_
              obtain ⟨rs, hrs⟩ : ∃ rs, d1 = .tuple rs := by cases d1 <;> first | exact ⟨_, rfl⟩ | cases h3
              have t13' := t13
              rw [hrs] at t13'
              obtain ⟨ra, rxs, hx1, er, tr⟩ := t13'.tup_inv
              have hrl := tr.length
              rw [hx1] at ea3
              walk_at "gg"
              by_cases h4 : 1 ≤ rs.length
              · refine g_T (decide_eq_true (by omega)) ?_
                walk_at "gg"
                by_cases h5 : rs.length ≤ 4
                · refine g_T (decide_eq_true (by omega)) ?_
                  walk_at "gg"
                  refine g_seqT ?_
                  walk_at "gg"
                  obtain ⟨d2, hr2⟩ : ∃ d2, r = [d2] := by
                    match r, h2 with
                    | [d2], _ => exact ⟨d2, rfl⟩
                  have ts3' := ts3
                  rw [hr2] at ts3'
                  obtain ⟨x2, us4, hus, t2, ts4⟩ := ts3'.cons_inv
                  rw [hus, ts4.nil_inv] at ea3
                  refine for_T (xs := rxs) (fun i σ H' => ∃ y, σ = [some (.ref a), some (.ref dd), y] ∧ Same H3' H' ∧ ∀ d ∈ rs.take i, rowM d = true) (fun i σ H' ⟨_, _, s, _⟩ => s _ _ er) ⟨_, rfl, .refl _, by simp⟩ ?_ ?_
                  · rintro i x σ H4 hx ⟨y, rfl, s4, hrows⟩
                    obtain ⟨dr, hdr, tx⟩ := (tr.mono (Same.tl s4)).get hx
                    have hbad : rowM dr = false → ∀ H', Same H4 H' → Q .non H' := fun hb H' s' => qn (kidsM_none c3 c2 c1 fun hh => by
                      have h6 := hh.2.2
                      rw [hrs] at h6
                      have h6' : (decide (1 ≤ rs.length) && (decide (rs.length ≤ 4) && rs.all rowM)) = true := h6
                      simp only [Bool.and_eq_true, decide_eq_true_iff, List.all_eq_true] at h6'
                      rw [h6'.2.2 dr (List.mem_of_getElem? hdr)] at hb
                      cases hb) H' (s03.trans (s4.trans s'))
                    have hgood : rowM dr = true → ∀ H', Same H4 H' → ∃ y, ([some (.ref a), some (.ref dd), some x] : List (Option V)) = [some (.ref a), some (.ref dd), y] ∧ Same H3' H' ∧ ∀ d ∈ rs.take (i + 1), rowM d = true := fun hb H' s' => ⟨_, rfl, s4.trans s', fun d hd => by
                      rw [List.take_add_one, hdr] at hd
                      rcases List.mem_append.mp hd with hd | hd
                      · exact hrows d hd
                      · have : d = dr := by simpa using hd
                        rw [this]; exact hb⟩
                    walk_at "gg"
                    refine g_isiTup tx ?_
                    walk_at "gg"
                    cases dr with
                    | tuple es =>
                      refine g_F rfl ?_
                      obtain ⟨ra2, ys, rfl, er2, ty⟩ := tx.tup_inv
                      have hyl := ty.length
                      walk_at "gg"
                      match es, ty, hyl, hbad, hgood with
                      | [e1, e2], ty, hyl, hbad, hgood =>
                        refine g_F (by rw [decide_eq_true (by rw [hyl]; rfl)]; rfl) ?_
                        obtain ⟨y1, ys1, rfl, ty1, tya⟩ := ty.cons_inv
                        obtain ⟨y2, ys2, rfl, ty2, tyb⟩ := tya.cons_inv
                        walk_at "gg"
                        refine ⟨y1, e1, rfl, ty1, fun H5 s5 => ?_⟩
                        walk_at "gg"
                        by_cases h6 : nameM e1 = true
                        · refine g_F (by rw [h6]; rfl) ?_
                          walk_at "gg"
                          exact hgood h6 H5 s5
                        · refine g_T (by rw [show nameM e1 = false from by simpa using h6]; rfl) ?_
                          walk_at "gg"
                          exact hbad (show rowM (.tuple [e1, e2]) = false from (by simpa using h6 : nameM e1 = false)) H5 s5
                      | [], ty, hyl, hbad, hgood =>
                        refine g_T (by rw [decide_eq_false (by rw [hyl]; show ¬ ((0 : Int) = 2); decide)]; rfl) ?_
                        walk_at "gg"
                        exact hbad rfl _ (.refl _)
                      | [_], ty, hyl, hbad, hgood =>
                        refine g_T (by rw [decide_eq_false (by rw [hyl]; show ¬ ((1 : Int) = 2); decide)]; rfl) ?_
                        walk_at "gg"
                        exact hbad rfl _ (.refl _)
                      | _ :: _ :: _ :: _, ty, hyl, hbad, hgood =>
                        refine g_T (by rw [decide_eq_false (by rw [hyl]; simp only [List.length_cons]; omega)]; rfl) ?_
                        walk_at "gg"
                        exact hbad rfl _ (.refl _)
                    | _ =>
                      refine g_T rfl ?_
                      walk_at "gg"
                      exact hbad rfl _ (.refl _)
                  · rintro σ H4 ⟨y, rfl, s4, hrows⟩
                    have hall : ∀ d ∈ rs, rowM d = true := by
                      rw [hrl, List.take_length] at hrows
                      exact hrows
                    have hk : kidsM (.tuple (.str s :: d1 :: r)) = some (rs.map sndM ++ [d2]) := by
                      rw [h1, hr2, kidsM_let (by rw [hrs]; show (decide (1 ≤ rs.length) && (decide (rs.length ≤ 4) && rs.all rowM)) = true; rw [decide_eq_true h4, decide_eq_true h5, List.all_eq_true.mpr hall]; rfl), hrs]; rfl
                    have qs' := qs _ hk
                    have ea4 := s4 _ _ ea3
                    have er4 := s4 _ _ er
                    have tr4 := tr.mono (Same.tl s4)
                    have t24 := t2.mono (Same.tl s4)
                    have s04 := s03.trans s4
                    clear qn qs ea3 er tr t2 t13 s03 s4 ts3 t13' ts3' ts4
                    walk_at "gg"
                    refine g_seqT ?_
                    walk_at "gg"
                    refine lc_gqT er4 (by omega) tr4 sndM ?_ ?_
                    · intro x d H' Nx hdm tx hN
                      have hrow := hall d hdm
                      unfold rowM at hrow
                      split at hrow
                      · rename_i e1 e2
                        obtain ⟨ra2, ys, rfl, er2, ty⟩ := tx.tup_inv
                        obtain ⟨y1, ys, rfl, ty1, ty⟩ := ty.cons_inv
                        obtain ⟨y2, ys, rfl, ty2, ty⟩ := ty.cons_inv
                        walk_at "gg"
                        refine ⟨rfl, ?_⟩
                        walk_at "gg"
                        exact hN y2 _ (.refl _) ty2
                      · cases hrow
                    · intro D ys H5 nD eD tys s5
                      have hyl := tys.length
                      rw [List.length_map] at hyl
                      walk_at "gg"
                      rename_i l6 H6 n6 e6 s6 l7 H7 n7 e7 s7
                      have s67 := s6.trans s7
                      exact qs' l7 _ H7 (s04.free (s5.free (s6.free n7))) e7 ((tys.mono (Same.tl s67)).append (.one (t24.mono (Same.tl (s5.trans s67))))) (s04.trans (s5.trans s67))
                · refine g_F (decide_eq_false (by omega)) ?_
                  walk_at "gg"
                  exact qn (kidsM_none c3 c2 c1 fun hh => by
                    have h6 := hh.2.2
                    rw [hrs] at h6
                    have h6' : (decide (1 ≤ rs.length) && (decide (rs.length ≤ 4) && rs.all rowM)) = true := h6
                    simp only [Bool.and_eq_true, decide_eq_true_iff] at h6'
                    exact h5 h6'.2.1) _ s03
              · refine g_F (decide_eq_false (by omega)) ?_
                walk_at "gg"
                exact qn (kidsM_none c3 c2 c1 fun hh => by
                    have h6 := hh.2.2
                    rw [hrs] at h6
                    have h6' : (decide (1 ≤ rs.length) && (decide (rs.length ≤ 4) && rs.all rowM)) = true := h6
                    simp only [Bool.and_eq_true, decide_eq_true_iff] at h6'
                    exact h4 h6'.1) _ s03
            · refine g_F (by simpa using h3) ?_
              walk_at "gg"
              exact qn (kidsM_none c3 c2 c1 fun hh => h3 (by have := hh.2.2; cases d1 <;> first | rfl | cases this)) _ s03
          · refine g_F (decide_eq_false (by rw [hlen]; omega)) ?_
            walk_at "gg"
            exact qn (kidsM_none c3 c2 c1 fun hh => h2 hh.2.1) _ s03
        · refine g_F (decide_eq_false h1) ?_
          walk_at "gg"
          exact qn (kidsM_none c3 c2 c1 fun hh => h1 hh.1) _ s03
      | _ => exact qn rfl _ (.refl _)
  | _ => exact qn rfl _ (.refl _)

/-! ### the law's bodies, functions -/
def runQ : Nat → Nat → List (PyData × Nat) → Bool
  | _, _, [] => true
  | 0, _, _ :: _ => false
  | f + 1, many, (d, deep) :: st => match kidsM d with
    | none => false
    | some ks => if deep > 12 ∨ many + 1 > 60 then false else runQ f (many + 1) (st ++ ks.map fun k => (k, deep + 1))
theorem runQ_decode : ∀ (f many : Nat) (st : List (PyData × Nat)), many ≤ 60 → runQ f many st = true → ∃ qs : List (Part × Nat), qs.map gq2 = st ∧ (∀ q ∈ qs, q.1.shape ∧ q.1.deep + q.2 ≤ 13) ∧ many + dsz qs ≤ 60
  | f, many, [], hm, _ => ⟨[], rfl, fun q hq => (List.not_mem_nil hq).elim, hm⟩
  | 0, many, _ :: _, hm, h => by cases h
  | f + 1, many, (d, k) :: st, hm, h => by
    have h' : (match kidsM d with
      | none => false
      | some ks => if k > 12 ∨ many + 1 > 60 then false else runQ f (many + 1) (st ++ ks.map fun x => (x, k + 1))) = true := h
    cases hk : kidsM d with
    | none => rw [hk] at h'; cases h'
    | some ks =>
      rw [hk] at h'
      dsimp only at h'
      by_cases hc : k > 12 ∨ many + 1 > 60
      · rw [if_pos hc] at h'; cases h'
      rw [if_neg hc] at h'
      have hk12 : k ≤ 12 := by omega
      have hm60 : many + 1 ≤ 60 := by omega
      obtain ⟨qs, e, hq, hs⟩ := runQ_decode f (many + 1) _ hm60 h'
      obtain ⟨qs2, qs1, rfl, e2, e3⟩ := List.map_eq_append_iff.mp e
      have e4 : ks = (qs1.map (·.1)).map Part.data := by
        have := congrArg (List.map Prod.fst) e3
        rw [List.map_map, List.map_map] at this
        rw [List.map_map]
        simpa [Function.comp_def, gq2] using this.symm
      have e5 : ∀ q ∈ qs1, q.2 = k + 1 := by
        intro q hq
        have := List.mem_map_of_mem (f := gq2) hq
        rw [e3] at this
        obtain ⟨x, _, hx⟩ := List.mem_map.mp this
        exact (congrArg Prod.snd hx).symm
      obtain ⟨p, hp1, hp2, hp3⟩ := kidsM_decode hk e4 fun p hp => by
        obtain ⟨q, hqm, rfl⟩ := List.mem_map.mp hp
        exact (hq q (List.mem_append.mpr (.inr hqm))).1
      refine ⟨(p, k) :: qs2, by rw [List.map_cons, e2]; show (p.data, k) :: st = _; rw [hp1], fun q hqm => ?_, ?_⟩
      · rcases List.mem_cons.mp hqm with rfl | hqm
        · refine ⟨hp2, ?_⟩
          show p.deep + k ≤ 13
          rw [p.mxd_kids, hp3]
          have : mxd (qs1.map (·.1)) ≤ 12 - k := by
            refine mxd_le fun x hx => ?_
            obtain ⟨q, hqm, rfl⟩ := List.mem_map.mp hx
            have h1 := (hq q (List.mem_append.mpr (.inr hqm))).2
            have h2 := e5 q hqm
            omega
          omega
        · exact hq q (List.mem_append.mpr (.inl hqm))
      · show many + (p.size + dsz qs2) ≤ 60
        rw [dsz_app] at hs
        have : p.size = 1 + dsz qs1 := by
          rw [p.sz_kids, hp3]
          congr 1
          clear hs hq e e3 e4 e5 hp3
          induction qs1 with
          | nil => rfl
          | cons q qs ih => obtain ⟨a, b⟩ := q; show a.size + sz _ = a.size + dsz qs; rw [ih]
        omega
theorem runQ_true : ∀ (f many : Nat) (qs : List (Part × Nat)), f + many = 61 → (∀ q ∈ qs, q.1.shape ∧ q.1.deep + q.2 ≤ 13) → many + dsz qs ≤ 60 → runQ f many (qs.map gq2) = true
  | f, many, [], _, _, _ => by cases f <;> rfl
  | 0, many, q :: qs, h, _, hs => by omega
  | f + 1, many, (p, k) :: qs, h, hq, hs => by
    have hs' : many + (p.size + dsz qs) ≤ 60 := hs
    have hp := hq (p, k) List.mem_cons_self
    have hd : p.deep + k ≤ 13 := hp.2
    have hmx := p.mxd_kids
    have hsz := p.sz_kids
    show (match kidsM p.data with
      | none => false
      | some ks => if k > 12 ∨ many + 1 > 60 then false else runQ f (many + 1) (qs.map gq2 ++ ks.map fun x => (x, k + 1))) = true
    rw [kidsM_data hp.1]
    dsimp only
    rw [if_neg (by omega)]
    have e : (qs.map gq2 ++ (p.kids.map Part.data).map fun x => (x, k + 1)) = (qs ++ p.kids.map fun x => (x, k + 1)).map gq2 := by
      rw [List.map_append, List.map_map, List.map_map]; rfl
    rw [e]
    refine runQ_true f (many + 1) _ (by omega) (fun q hqm => ?_) ?_
    · rcases List.mem_append.mp hqm with hqm | hqm
      · exact hq q (List.mem_cons_of_mem _ hqm)
      · obtain ⟨x, hx, rfl⟩ := List.mem_map.mp hqm
        have := mxd_mem hx
        exact ⟨hp.1.kids x hx, by show x.deep + (k + 1) ≤ 13; omega⟩
    · rw [dsz_app, dsz_map]
      omega
theorem runQ_body (d : PyData) : runQ 61 0 [(d, 1)] = bodyM d := by
  rw [Bool.eq_iff_iff]
  constructor
  · intro h
    obtain ⟨qs, e, hq, hs⟩ := runQ_decode 61 0 [(d, 1)] (by omega) h
    obtain ⟨q, qs', rfl, e1, e2⟩ := List.map_eq_cons_iff.mp e
    obtain ⟨p, k⟩ := q
    have h1 : p.data = d := congrArg Prod.fst e1
    have h2 : k = 1 := congrArg Prod.snd e1
    have h3 := hq (p, k) List.mem_cons_self
    have h4 : p.deep + k ≤ 13 := h3.2
    have h5 : 0 + (p.size + dsz qs') ≤ 60 := hs
    rw [← h1]
    exact bodyM_true ⟨h3.1, by omega, by omega⟩
  · intro h
    obtain ⟨p, rfl, hb⟩ := bodyM_decode h
    exact runQ_true 61 0 [(p, 1)] rfl (fun q hq => by rw [List.mem_singleton.mp hq]; exact ⟨hb.shape, by show p.deep + 1 ≤ 13; have := hb.deep; omega⟩) (by show 0 + (p.size + 0) ≤ 60; have := hb.size; omega)
theorem pure_lisbodyX {K : PySem.W.Frag} {w : World} : PureOk 1 spIsBodyX (t_law_is_body K w spPartsOfX) 7 := by
  refine ⟨fun vs H Q E ⟨_, _, e, _⟩ => by rw [e]; rfl, ?_⟩
  rintro vs H Q E ⟨v, d, rfl, t, q⟩
  show t_law_is_body K w _ _ [some v, none, none, none, none, none, none] H
  unfold t_law_is_body
  rw [← runQ_body] at q
  walk_at "gg"
  rename_i a1 H1 n1 e1 s1 pl H2 n2 e2 s2
  have npl : H pl = none := s1.free n2
  refine while_any (fun m σ H' => ∃ (x3 x4 x5 x6 : Option V) (many : Nat) (vs : List V) (st : List (PyData × Nat)), σ = [some v, some (.ref pl), some (.int many), x3, x4, x5, x6] ∧ H' pl = some (.lst vs) ∧ Gqs H' vs (st.map gpd) ∧
      many ≤ 60 ∧ vs.length ≤ 5 * many + 1 ∧ many ≤ vs.length ∧ runQ (61 - many) many (st.drop many) = runQ 61 0 [(d, 1)] ∧ m = 61 - many ∧ Same H H') 61
    ⟨none, none, none, none, 0, [.ref a1], [(d, 1)], rfl, e2, .cons (.tup (s2 _ _ e1) (.cons (t.mono (Same.tl (s1.trans s2))) (.one (.int _)))) .nil, by omega, by simp, by simp, rfl, rfl, s1.trans s2⟩ ?_
  rintro m σ H3 ⟨x3, x4, x5, x6, many, vs, st, rfl, hp, tp, hm60, hvl, hmv, hrun, rfl, s3⟩
  have hsl : vs.length = st.length := by rw [tp.length, List.length_map]
  walk_at "gg"
  by_cases hend : many < vs.length
  rotate_left
  · refine g_F (decide_eq_false (by omega)) ?_
    walk_at "gg"
    have e : runQ 61 0 [(d, 1)] = true := by rw [← hrun, List.drop_of_length_le (by omega)]; cases 61 - many <;> rfl
    rw [e] at q
    exact q _ s3
  refine g_T (decide_eq_true (by omega)) ?_
  refine g_turn ?_
  obtain ⟨⟨d1, k1⟩, hst⟩ : ∃ q, st[many]? = some q := ⟨_, List.getElem?_eq_getElem (by omega)⟩
  obtain ⟨v1, hv1⟩ : ∃ q, vs[many]? = some q := ⟨_, List.getElem?_eq_getElem (by omega)⟩
  obtain ⟨dd1, hdd1, t1⟩ := tp.get hv1
  rw [List.getElem?_map, hst] at hdd1
  cases hdd1
  have hdrop : st.drop many = (d1, k1) :: st.drop (many + 1) := by
    obtain ⟨h1, h2⟩ := List.getElem?_eq_some_iff.mp hst
    rw [List.drop_eq_getElem_cons h1, h2]
  rw [hdrop] at hrun
  obtain ⟨a5, us, rfl, ea5, tu⟩ := Gq.tup_inv (ds := [d1, .int k1]) t1
  obtain ⟨u1, us, rfl, tu1, tu⟩ := tu.cons_inv
  obtain ⟨u2, us, rfl, tu2, tu⟩ := tu.cons_inv
  rw [tu.nil_inv] at ea5
  have hu2 : u2 = .int k1 := by cases tu2; rfl
  subst hu2
  clear tu tu2 t1
  walk_at "gg"
  refine g_ixL (.of hp) (v := .ref a5) (atI_of (by omega) (by rw [Int.toNat_natCast]; exact hv1)) ?_
  refine g_un2 ea5 ?_
  walk_at "gg"
  have hr2 : runQ (61 - many) many ((d1, k1) :: st.drop (many + 1)) = match kidsM d1 with
      | none => false
      | some ks => if k1 > 12 ∨ many + 1 > 60 then false else runQ (60 - many) (many + 1) (st.drop (many + 1) ++ ks.map fun k => (k, k1 + 1)) := by
    have e : 61 - many = (60 - many) + 1 := by omega
    rw [e]; rfl
  rw [hr2] at hrun
  refine ⟨u1, d1, rfl, tu1, fun hno H7 s7 => ?_, fun ks hks l us H7 nl7 el7 tk7 s7 => ?_⟩
  · rw [hno] at hrun
    have hrun' : false = runQ 61 0 [(d, 1)] := hrun
    walk_at "gg"
    refine .inl ⟨rfl, ?_⟩
    walk_at "gg"
    rw [← hrun'] at q
    exact q _ (s3.trans s7)
  rw [hks] at hrun
  dsimp only at hrun
  have hkl := kidsM_len hks
  have hul := tk7.length
  have e75 := s7 _ _ hp
  have tp7' := tp.mono (Same.tl s7)
  have s07 := s3.trans s7
  clear tu1 ea5 s3 s7 hp
  walk_at "gg"
  refine .inl ⟨rfl, ?_⟩
  walk_at "gg"
  by_cases h12 : k1 > 12
  · rw [if_pos (.inl h12)] at hrun
    refine g_T (decide_eq_true (by omega)) ?_
    walk_at "gg"
    rw [← hrun] at q
    exact q _ s07
  refine g_F (decide_eq_false (by omega)) ?_
  walk_at "gg"
  by_cases h60 : many + 1 > 60
  · rw [if_pos (.inr h60)] at hrun
    refine g_T (decide_eq_true (by omega)) ?_
    walk_at "gg"
    rw [← hrun] at q
    exact q _ s07
  refine g_F (decide_eq_false (by omega)) ?_
  rw [if_neg (fun h => h.elim h12 h60)] at hrun
  walk_at "gg"
  refine g_seqL ?_
  walk_at "gg"
  refine lc_gqL el7 (by omega) tk7 (fun k => gpd (k, k1 + 1)) ?_ ?_
  · intro x dx H' Nx hx tx hN
    walk_at "gg"
    refine ⟨rfl, ?_⟩
    walk_at "gg"
    rename_i a8 H8 n8 e8 s8
    exact hN _ _ s8 (.tup e8 (.cons (tx.mono (Same.tl s8)) (.one (.int _))))
  · intro D ys H8 nD eD tys s8
    have hyl := tys.length
    rw [List.length_map] at hyl
    have e85 := s8 _ _ e75
    walk_at "gg"
    refine g_extend e85 eD (by show _ ≤ 16777216; omega) ?_
    walk_at "gg"
    rename_i H9 e9 c9
    have k89 : Tl H8 H9 := c9.tl e85 e9
    refine ⟨61 - (many + 1), by omega, _, _, _, _, many + 1, _, st ++ ks.map fun k => (k, k1 + 1), rfl, e9, ?_, by omega, ?_, ?_, ?_, rfl, Same.chg (s07.trans s8) npl c9⟩
    · rw [List.map_append, List.map_map]
      exact Gqs.append ((tp7'.mono (Same.tl s8)).mono k89) (tys.mono k89)
    · rw [List.length_append]; omega
    · rw [List.length_append]; omega
    · rw [show 61 - (many + 1) = 60 - many from by omega, List.drop_append_of_le_length (by omega)]; exact hrun
theorem pure_lisfunctionX {K : PySem.W.Frag} {w : World} : PureOk 1 spIsFunctionX (t_law_is_function K w spIsNameX spIsBodyX) 2 := by
  refine ⟨fun vs H Q E ⟨_, _, e, _⟩ => by rw [e]; rfl, ?_⟩
  rintro vs H Q E ⟨v, d, rfl, t, q⟩
  show t_law_is_function K w _ _ _ [some v, none] H
  unfold t_law_is_function
  walk_at "gg"
  refine g_isiTup t ?_
  walk_at "gg"
  cases d with
  | tuple ds =>
    refine g_F rfl ?_
    obtain ⟨a, xs, rfl, ea, ts⟩ := t.tup_inv
    have hl := ts.length
    clear t
    walk_at "gg"
    match ds, ts, hl, q with
    | [d0, d1, d2], ts, hl, q =>
      refine g_F (by rw [decide_eq_true (by rw [hl]; rfl)]; rfl) ?_
      obtain ⟨x0, us0, rfl, t0, tsa⟩ := ts.cons_inv
      obtain ⟨x1, us1, rfl, t1, tsb⟩ := tsa.cons_inv
      obtain ⟨x2, us2, rfl, t2, tsc⟩ := tsb.cons_inv
      rw [tsc.nil_inv] at ea
      clear tsa tsb tsc ts
      have hq : ∀ H', Same H H' → ∀ b : Bool, b = functionM (.tuple [d0, d1, d2]) → Q (.bl b) H' := fun H' s' b e => e ▸ q H' s'
      walk_at "gg"
      refine ⟨x0, d0, rfl, t0, fun H1 s1 => ?_⟩
      have ea1 := s1 _ _ ea
      have t11 := t1.mono (Same.tl s1)
      have t21 := t2.mono (Same.tl s1)
      clear ea t0 t1 t2
      walk_at "gg"
      by_cases h0 : nameM d0 = true
      rotate_left
      · have h0' : nameM d0 = false := by simpa using h0
        refine g_T (by rw [h0']; rfl) ?_
        walk_at "gg"
        refine hq H1 s1 _ ?_
        cases d1 with
        | tuple ths => show false = (nameM d0 && _); rw [h0', Bool.false_and]
        | _ => rfl
      refine g_F (by rw [h0]; rfl) ?_
      walk_at "gg"
      refine ⟨x2, d2, rfl, t21, fun H2 s2 => ?_⟩
      have ea2 := s2 _ _ ea1
      have t12 := t11.mono (Same.tl s2)
      have s02 := s1.trans s2
      clear ea1 t11 t21 s1 s2
      walk_at "gg"
      by_cases hb : bodyM d2 = true
      rotate_left
      · have hb' : bodyM d2 = false := by simpa using hb
        refine g_T (by rw [hb']; rfl) ?_
        walk_at "gg"
        refine hq H2 s02 _ ?_
        cases d1 with
        | tuple ths => show false = (nameM d0 && (decide (ths.length ≤ 4) && (ths.all nameM && bodyM d2))); rw [hb', Bool.and_false, Bool.and_false, Bool.and_false]
        | _ => rfl
      refine g_F (by rw [hb]; rfl) ?_
      walk_at "gg"
      refine g_isiTup t12 ?_
      walk_at "gg"
      cases d1 with
      | tuple ths =>
        refine g_F rfl ?_
        obtain ⟨b, ys, rfl, eb, ty⟩ := t12.tup_inv
        have hyl := ty.length
        have hfm : functionM (.tuple [d0, .tuple ths, d2]) = (decide (ths.length ≤ 4) && ths.all nameM) := by
          show (nameM d0 && (decide (ths.length ≤ 4) && (ths.all nameM && bodyM d2))) = _
          rw [h0, hb, Bool.true_and, Bool.and_true]
        rw [hfm] at hq
        walk_at "gg"
        by_cases h4 : ths.length ≤ 4
        · refine g_F (decide_eq_false (by omega)) ?_
          rw [decide_eq_true h4, Bool.true_and] at hq
          walk_at "gg"
          refine g_seqT ?_
          walk_at "gg"
          refine lc_sift (K := K) ys.length (fun i => match ths[i]? with | some d => !nameM d | none => false) (fun i H' hi s => ⟨_, _, .of (s _ _ eb), List.getElem?_eq_getElem hi⟩) (fun H' s => ⟨_, .of (s _ _ eb), Nat.le_refl _⟩) (by omega) ?_ ?_
          · rintro i x H' H'' Na Nb hi s ⟨rfl, hx⟩ hA hB
            obtain ⟨dn, hdn, tn⟩ := (ty.mono (Same.tl s)).get (hx _ (.of (s _ _ eb)))
            rw [hdn] at hA hB
            walk_at "gg"
            refine ⟨rfl, ?_⟩
            walk_at "gg"
            refine ⟨x, dn, rfl, tn, fun H5 s5 => ?_⟩
            walk_at "gg"
            refine g_ite (fun h => ?_) (fun h => ?_)
            · walk_at "gg"
              exact hA _ _ h s5
            · exact hB _ h s5
          · intro D zs H' nD eD hzs s
            walk_at "gg"
            rename_i l5 H5 n5 e5 s5
            refine hq H5 (s02.trans (s.trans s5)) _ ?_
            rw [hzs, hyl, range_all ths nameM _ (fun i d hd => by rw [hd]; simp)]
        · refine g_T (decide_eq_true (by omega)) ?_
          walk_at "gg"
          exact hq H2 s02 _ (by rw [decide_eq_false h4]; rfl)
      | _ =>
        refine g_T rfl ?_
        walk_at "gg"
        exact hq H2 s02 _ rfl
    | [], ts, hl, q =>
      refine g_T (by rw [decide_eq_false (by rw [hl]; show ¬ ((0 : Int) = 3); decide)]; rfl) ?_
      walk_at "gg"
      exact q H (.refl _)
    | [_], ts, hl, q =>
      refine g_T (by rw [decide_eq_false (by rw [hl]; show ¬ ((1 : Int) = 3); decide)]; rfl) ?_
      walk_at "gg"
      exact q H (.refl _)
    | [_, d1], ts, hl, q =>
      refine g_T (by rw [decide_eq_false (by rw [hl]; show ¬ ((2 : Int) = 3); decide)]; rfl) ?_
      walk_at "gg"
      have := q H (.refl _)
      cases d1 <;> exact this
    | _ :: d1 :: _ :: _ :: _, ts, hl, q =>
      refine g_T (by rw [decide_eq_false (by rw [hl]; simp only [List.length_cons]; omega)]; rfl) ?_
      walk_at "gg"
      have := q H (.refl _)
      cases d1 <;> exact this
  | _ =>
    refine g_T rfl ?_
    walk_at "gg"
    exact q H (.refl _)

/-! ### the law's own look at names -/
theorem Rows.rn_parts : ∀ r : Rows, r.rowNames = r.parts.flatMap Part.rowNames
  | .nil => rfl
  | .cons x a r => by
    show a.rowNames ++ r.rowNames = (a :: r.parts).flatMap Part.rowNames
    rw [List.flatMap_cons, Rows.rn_parts r]
theorem kids_rn {p : Part} : p.rowNames = nmL p ++ p.kids.flatMap Part.rowNames := by
  cases p with
  | letp r a =>
    show r.names ++ (r.rowNames ++ a.rowNames) = r.names ++ (r.parts ++ [a]).flatMap Part.rowNames
    rw [List.flatMap_append, Rows.rn_parts r, List.flatMap_cons, List.flatMap_nil, List.append_nil]
  | two k a b => show _ = [] ++ [a, b].flatMap Part.rowNames; simp [Part.rowNames]
  | whn a b c => show _ = [] ++ [a, b, c].flatMap Part.rowNames; simp [Part.rowNames]
  | one k a => show _ = [] ++ [a].flatMap Part.rowNames; simp [Part.rowNames]
  | num n => rfl
  | name n => rfl
  | fn n => rfl
  | shut a => rfl
/-- the kids by the law's inner -/
theorem inner_kids {K : PySem.W.Frag} {H : Hp} {v : V} {p : Part} {Q : VK} {E : XK} (t : Tp H v p.data) (hs : p.shape) (q : ∀ (l : Addr) (us : List V) (H' : Hp), H l = none → H' l = some (.lst us) → Tps H' us (p.kids.map Part.data) → Same H H' → Q (.ref l) H') : spPartsOfX ([v] ++ []) H Q E := by
  refine ⟨v, p.data, rfl, t.gq hs.sh, fun hn => ?_, fun ks hk l us H' nl el tk s => ?_⟩
  · rw [kidsM_data hs] at hn; cases hn
  · rw [kidsM_data hs] at hk
    cases hk
    exact q l us H' nl el (tk.tp (tpsB_all fun d hd => by obtain ⟨p2, _, rfl⟩ := List.mem_map.mp hd; exact p2.tpB)) s
def spLets (m : Nat) : Sp := fun vs H Q _ => ∃ (v : V) (p : Part), vs = [v] ∧ Tp H v p.data ∧ p.shape ∧ p.deep ≤ m ∧ p.size ≤ 60 ∧ ∀ (l : Addr) (H' : Hp), H l = none → H' l = some (.lst (p.rowNames.map V.str)) → Same H H' → Q (.ref l) H'
theorem rows_names {K : PySem.W.Frag} {g : TG} {te : TE} {vs : List Nat} {σ : L2.St} {H1 : Hp} {ra : Addr} {rs : List V} {r : Rows} {Qd : Addr → Hp → Prop} (er : H1 ra = some (.tup rs)) (tr : Tps H1 rs r.datas) (hl : r.names.length ≤ 4)
    (hs : ∀ (a2 : Addr) (nm : Str) (u : V) H' (Nx : V → Hp → Prop), H' a2 = some (.tup [.str nm, u]) → (∀ H4, Same H' H4 → Nx (.str nm) H4) → g (.ref a2) (wipe σ vs) H' fun σ2 H2 => wipe σ2 vs = wipe σ vs ∧ te σ2 H2 Nx)
    (hd : ∀ D H', Fr H1 D → H' D = some (.lst (r.names.map V.str)) → Same H1 H' → Qd D H') : LcR (Itt K ra) g tYes te vs σ H1 Qd := by
  have hrl : rs.length = r.names.length := by rw [tr.length, r.len, Rows.list_names, Rows.list_parts, List.length_map, List.length_map]
  refine lc_mapT er (by omega) (fun i y H' => ∃ nm, r.names[i]? = some nm ∧ y = .str nm) (fun i y H H' k h => h) ?_ ?_
  · intro j y H' Nx hy s hN
    obtain ⟨d, hd, ty⟩ := (tr.mono (Same.tk s)).get hy
    obtain ⟨nm, p2, hnm, hp2, rfl⟩ := Rows.get hd
    obtain ⟨a2, u1, u2, rfl, ea2, tn, tp⟩ := ty.two
    rw [tn.str_inv] at ea2
    exact hs a2 nm u2 H' Nx ea2 fun H4 s4 => hN _ _ s4 ⟨nm, hnm, rfl⟩
  · intro D ys H2 nD eD hys hF s2
    have hys2 : ys = r.names.map V.str := by
      refine List.ext_getElem? fun i => ?_
      cases e : ys[i]? with
      | none =>
        rw [List.getElem?_eq_none_iff] at e
        rw [List.getElem?_eq_none (by rw [List.length_map]; omega)]
      | some y =>
        obtain ⟨nm, hq, rfl⟩ := hF i y e
        rw [List.getElem?_map, hq]
        rfl
    subst hys2
    exact hd D H2 nD eD s2
theorem flat_lenG {α : Type} (f : Part → List α) {ps : List Part} (i : Nat) : ((ps.take i).flatMap f).length ≤ (ps.flatMap f).length := by
  have h : ps.flatMap f = (ps.take i).flatMap f ++ (ps.drop i).flatMap f := by rw [← List.flatMap_append, List.take_append_drop]
  rw [h, List.length_append]
  omega
theorem pure_lets {K : PySem.W.Frag} {w : World} {m : Nat} : PureOk 1 (spLets (m + 1)) (t_law_lets K w spPartsOfX (spLets m)) 4 := by
  refine ⟨fun vs H Q E ⟨_, _, e, _⟩ => by rw [e]; rfl, ?_⟩
  rintro vs H Q E ⟨v, p, rfl, t, hs, hdp, hz, q⟩
  show t_law_lets K w _ _ _ [some v, none, none, none] H
  unfold t_law_lets
  have hdk := p.mxd_kids
  have hsk := p.sz_kids
  have hrs := p.rn_size
  have hkr := kids_rn (p := p)
  have hkl := congrArg List.length hkr
  rw [List.length_append] at hkl
  obtain ⟨a, xs, rfl, ea, txs⟩ := t.part
  walk_at "gg"
  rename_i l0 H0 n0 e0 s0
  refine g_cutA (fun l1 H1 => H1 l1 = some (.lst ((nmL p).map V.str)) ∧ Same H H1 ∧ H l1 = none) (B := ?B) (fun rest => ?f) ?b
  case f =>
    by_cases hw : p.word = "let"
    · refine g_T (decide_eq_true hw) ?_
      obtain ⟨r, b, rfl⟩ := word_let hw
      obtain ⟨x5, r5, rfl, t5, tr5⟩ := Tps.cons_inv (show Tps H xs [.tuple r.datas, b.data] from txs)
      obtain ⟨x6, r6, rfl, t6, tr6⟩ := tr5.cons_inv
      rw [tr6.nil_inv] at ea
      have ea' : H a = some (.tup [.str "let", x5, x6]) := ea
      obtain ⟨ra, rs, rfl, er, tr⟩ := t5.tup_inv
      refine g_asg (g_lc (g_seqT ?_))
      walk_at "gg"
      refine rows_names (s0 _ _ er) (tr.mono (Same.tk s0)) hs.1 ?_ ?_
      · intro a2 nm u H' Nx ea2 hN
        walk_at "gg"
        refine ⟨rfl, ?_⟩
        walk_at "gg"
        exact hN _ (.refl _)
      · intro D H2 nD eD s2
        refine g_name rfl ?_
        exact rest D H2 ⟨eD, s0.trans s2, s0.free nD⟩
    · refine g_F (decide_eq_false hw) ?_
      exact rest l0 H0 ⟨by rw [nmL_no hw]; exact e0, s0, n0⟩
  rintro l1 H1 ⟨e1, s1, n1⟩
  have t1 := t.mono (Same.tk s1)
  walk_at "gg"
  refine g_seqL ?_
  walk_at "gg"
  refine inner_kids (K := K) t1 hs fun lk us H2 nk ek tk s2 => ?_
  refine g_isL (.of ek) ?_
  have hul : us.length = p.kids.length := by rw [tk.length, List.length_map]
  refine for_L (xs := us) (fun i σ H' => ∃ l y, σ = [some (.ref a), some (.ref l), none, y] ∧ H' l = some (.lst ((nmL p ++ (p.kids.take i).flatMap Part.rowNames).map V.str)) ∧ H l = none ∧ Same H2 H') (fun i σ H' ⟨_, _, _, _, _, s⟩ => s _ _ ek)
    ⟨l1, _, rfl, by rw [List.take_zero, List.flatMap_nil, List.append_nil]; exact s2 _ _ e1, n1, .refl _⟩ ?_ ?_
  · rintro i x σ H3 hx ⟨l, y, rfl, e3, n3, s3⟩
    obtain ⟨d, hd, tx⟩ := tk.get hx
    rw [List.getElem?_map] at hd
    obtain ⟨p2, hp2, rfl⟩ := Option.map_eq_some_iff.mp hd
    have hm2 := List.mem_of_getElem? hp2
    have := mxd_mem hm2
    have := sz_mem hm2
    have hf1 := flat_lenG Part.rowNames (ps := p.kids) (i + 1)
    have htk : (p.kids.take (i + 1)).flatMap Part.rowNames = (p.kids.take i).flatMap Part.rowNames ++ p2.rowNames := by
      rw [List.take_add_one, hp2, List.flatMap_append]
      show _ ++ (p2.rowNames ++ []) = _
      rw [List.append_nil]
    rw [htk, List.length_append] at hf1
    walk_at "gg"
    refine ⟨x, p2, rfl, tx.mono (Same.tk s3), hs.kids p2 hm2, by omega, by omega, fun l4 H4 n4 e4 s4 => ?_⟩
    refine g_addL (s4 _ _ e3) e4 (by simp only [List.length_map, List.length_append]; show _ ≤ 16777216; omega) ?_
    walk_at "gg"
    rename_i l5 H5 n5 e5 s5
    refine ⟨l5, _, rfl, ?_, s1.free (s2.free (s3.free (s4.free n5))), s3.trans (s4.trans s5)⟩
    rw [e5, htk]
    simp only [List.map_append, List.append_assoc]
  · rintro σ H3 ⟨l, y, rfl, e3, n3, s3⟩
    rw [hul, List.take_length, ← hkr] at e3
    walk_at "gg"
    exact q l H3 n3 e3 (s1.trans (s2.trans s3))
mutual
theorem odd_nameP {fs : List Str} {x : Str} : ∀ (p : Part) (sc : List Str), p.shape → p.odd fs sc = some x → isName x
  | .num n, sc, h, e => by cases e
  | .name y, sc, h, e => by
    have e' : (if y ∈ sc then none else some y) = some x := e
    split at e'
    · cases e'
    · cases e'; exact h
  | .fn y, sc, h, e => by
    have e' : (if y ∈ fs then none else some y) = some x := e
    split at e'
    · cases e'
    · cases e'; exact h
  | .one _ a, sc, h, e => odd_nameP a sc h e
  | .two _ a b, sc, h, e => by
    have e' : (a.odd fs sc).or (b.odd fs sc) = some x := e
    cases ha : a.odd fs sc with
    | some y => rw [ha] at e'; cases e'; exact odd_nameP a sc h.1 ha
    | none => rw [ha, Option.none_or] at e'; exact odd_nameP b sc h.2 e'
  | .whn a b c, sc, h, e => by
    have e' : (a.odd fs sc).or ((b.odd fs sc).or (c.odd fs sc)) = some x := e
    cases ha : a.odd fs sc with
    | some y => rw [ha] at e'; cases e'; exact odd_nameP a sc h.1 ha
    | none =>
      rw [ha, Option.none_or] at e'
      cases hb : b.odd fs sc with
      | some y => rw [hb] at e'; cases e'; exact odd_nameP b sc h.2.1 hb
      | none => rw [hb, Option.none_or] at e'; exact odd_nameP c sc h.2.2 e'
  | .letp r a, sc, h, e => by
    have e' : (r.odd fs (sc ++ r.names)).or (a.odd fs (sc ++ r.names)) = some x := e
    cases ha : r.odd fs (sc ++ r.names) with
    | some y => rw [ha] at e'; cases e'; exact odd_nameR r _ h.2.2.2.1 ha
    | none => rw [ha, Option.none_or] at e'; exact odd_nameP a _ h.2.2.2.2 e'
  | .shut _, sc, h, e => h.elim
theorem odd_nameR {fs : List Str} {x : Str} : ∀ (r : Rows) (sc : List Str), r.shape → r.odd fs sc = some x → isName x
  | .nil, sc, h, e => by cases e
  | .cons _ a r, sc, h, e => by
    have e' : (a.odd fs sc).or (r.odd fs sc) = some x := e
    cases ha : a.odd fs sc with
    | some y => rw [ha] at e'; cases e'; exact odd_nameP a sc h.1 ha
    | none => rw [ha, Option.none_or] at e'; exact odd_nameR r sc h.2 e'
end
theorem Part.odd_name {fs sc : List Str} {x : Str} {p : Part} (h : p.shape) (e : p.odd fs sc = some x) : isName x := by
  exact odd_nameP p sc h e
def spStrange (m : Nat) : Sp := fun vs H Q _ => ∃ (v : V) (kl fl : Addr) (p : Part) (fs sc : List Str), vs = [v, .ref kl, .ref fl] ∧ Tp H v p.data ∧ p.shape ∧ p.deep ≤ m ∧ p.size ≤ 60 ∧ H kl = some (.lst (sc.map V.str)) ∧ H fl = some (.lst (fs.map V.str)) ∧ sc.length + 4 * m ≤ 100 ∧
  ∀ H', Same H H' → Q (.str ((p.odd fs sc).getD "")) H'
/-- the scope of the kids -/
def Part.scope (sc : List Str) : Part → List Str
  | .letp r _ => sc ++ r.names
  | _ => sc
theorem scope_plain {p : Part} {sc : List Str} (hw : plainWord p.word) : p.scope sc = sc := by
  cases p with
  | letp r b => exact absurd (show ("let" : Str) ∈ [("number" : Str), "fun", "let", "name"] from by simp) hw
  | _ => rfl
theorem Part.odd_kids {fs sc : List Str} {p : Part} (h : p.shape) (hw : p.word ≠ "name") (hf : p.word ≠ "fun") : p.odd fs sc = oddL fs (p.scope sc) p.kids := by
  cases p with
  | one k a => show _ = (a.odd fs sc).or none; rw [Option.or_none]; rfl
  | two k a b => show _ = (a.odd fs sc).or ((b.odd fs sc).or none); rw [Option.or_none]; rfl
  | whn a b c => show _ = (a.odd fs sc).or ((b.odd fs sc).or ((c.odd fs sc).or none)); rw [Option.or_none]; rfl
  | shut a => exact h.elim
  | num n => rfl
  | name n => exact absurd rfl hw
  | fn n => exact absurd rfl hf
  | letp r a =>
    show (r.odd fs (sc ++ r.names)).or (a.odd fs (sc ++ r.names)) = oddL fs (sc ++ r.names) (r.parts ++ [a])
    rw [Rows.odd_parts r]
    generalize r.parts = ps
    induction ps with
    | nil => show none.or _ = (a.odd fs (sc ++ r.names)).or none; rw [Option.or_none]; rfl
    | cons x ps ih => show ((x.odd fs (sc ++ r.names)).or (oddL fs (sc ++ r.names) ps)).or _ = (x.odd fs (sc ++ r.names)).or (oddL fs (sc ++ r.names) (ps ++ [a])); rw [Option.or_assoc, ih]
theorem pure_strange {K : PySem.W.Frag} {w : World} {m : Nat} : PureOk 3 (spStrange (m + 1)) (t_law_strange K w spPartsOfX (spStrange m)) 6 := by
  refine ⟨fun vs H Q E ⟨_, _, _, _, _, _, e, _⟩ => by rw [e]; rfl, ?_⟩
  rintro vs H Q E ⟨v, kl, fl, p, fs, sc, rfl, t, hs, hdp, hz, ek, ef, hlen, q⟩
  show t_law_strange K w _ _ _ [some v, some (.ref kl), some (.ref fl), none, none, none] H
  unfold t_law_strange
  have hdk := p.mxd_kids
  have hsk := p.sz_kids
  have hsl : (p.scope sc).length + 4 * m ≤ 100 := by
    cases p with
    | letp r b => have := hs.1; show (sc ++ r.names).length + _ ≤ _; rw [List.length_append]; omega
    | _ => show sc.length + _ ≤ _; omega
  obtain ⟨a, xs, rfl, ea, txs⟩ := t.part
  refine g_cutA (fun k1 H1 => H1 k1 = some (.lst ((p.scope sc).map V.str)) ∧ Same H H1 ∧ p.odd fs sc = oddL fs (p.scope sc) p.kids) (B := ?B) (fun rest => ?f) ?b
  case f =>
    rcases word_cases p with ⟨n, hp⟩ | ⟨x, hp⟩ | ⟨f, hp⟩ | ⟨r, b, hp⟩ | ⟨b, hp⟩ | ⟨hw, hsh⟩
    rotate_left 3
    · obtain ⟨u1, us1, hxs, t1, t2⟩ := Tps.cons_inv (show Tps H xs [.tuple r.datas, b.data] from by rw [hp] at txs; exact txs)
      obtain ⟨u2, us2, hus, t3, t4⟩ := t2.cons_inv
      obtain ⟨ra, rs, hu1, er, tr⟩ := t1.tup_inv
      have ea' : H a = some (.tup [.str "let", .ref ra, u2]) := by rw [hp, hxs, hus, t4.nil_inv, hu1] at ea; exact ea
      have h4 : r.names.length ≤ 4 := by rw [hp] at hs; exact hs.1
      walk_at "gg"
      refine g_seqT ?_
      walk_at "gg"
      refine rows_names er tr h4 ?_ ?_
      · intro a2 nm u H' Nx ea2 hN
        walk_at "gg"
        refine ⟨rfl, ?_⟩
        walk_at "gg"
        exact hN _ (.refl _)
      · intro D H2 nD eD s2
        refine g_addL (s2 _ _ ek) eD (by simp only [List.length_map]; show _ ≤ 16777216; omega) ?_
        walk_at "gg"
        rename_i k3 H3 n3 e3 s3
        refine g_seqL ?_
        walk_at "gg"
        exact rest k3 H3 ⟨by rw [e3, ← List.map_append, hp]; rfl, s2.trans s3, Part.odd_kids hs (by rw [hp]; show ("let" : Str) ≠ "name"; decide +kernel) (by rw [hp]; show ("let" : Str) ≠ "fun"; decide +kernel)⟩
    · rw [hp] at hs; exact hs.elim
    · walk_at "gg"
      refine g_F (decide_eq_false (not_name hw)) ?_
      walk_at "gg"
      refine g_F (decide_eq_false fun e => hw (by rw [e]; simp)) ?_
      walk_at "gg"
      refine g_F (decide_eq_false fun e => hw (by rw [e]; simp)) ?_
      walk_at "gg"
      refine g_seqL ?_
      walk_at "gg"
      have hsc : p.scope sc = sc := scope_plain hw
      exact rest kl H ⟨by rw [hsc]; exact ek, .refl _, Part.odd_kids hs (not_name hw) (fun e => hw (by rw [e]; simp))⟩
    · have ea' : H a = some (.tup (.str "number" :: xs)) := by rw [hp] at ea; exact ea
      walk_at "gg"
      refine g_seqL ?_
      walk_at "gg"
      exact rest kl H ⟨by rw [hp]; exact ek, .refl _, by rw [hp]; rfl⟩
    · obtain ⟨u1, us1, hxs, t1, t2⟩ := Tps.cons_inv (show Tps H xs [.str x] from by rw [hp] at txs; exact txs)
      have ea' : H a = some (.tup [.str "name", .str x]) := by rw [hp, hxs, t2.nil_inv, t1.str_inv] at ea; exact ea
      walk_at "gg"
      refine g_notInL (ss := sc) (.of ek) ?_
      walk_at "gg"
      by_cases hx : x ∈ sc
      · refine g_F (by rw [decide_eq_true hx]; rfl) ?_
        walk_at "gg"
        refine g_seqL ?_
        walk_at "gg"
        exact rest kl H ⟨by rw [hp]; exact ek, .refl _, by rw [hp]; exact if_pos hx⟩
      · refine g_T (by rw [decide_eq_false hx]; rfl) ?_
        walk_at "gg"
        have := q H (.refl _)
        rwa [hp, show (Part.name x).odd fs sc = some x from if_neg hx] at this
    · obtain ⟨u1, us1, hxs, t1, t2⟩ := Tps.cons_inv (show Tps H xs [.str f] from by rw [hp] at txs; exact txs)
      have ea' : H a = some (.tup [.str "fun", .str f]) := by rw [hp, hxs, t2.nil_inv, t1.str_inv] at ea; exact ea
      walk_at "gg"
      refine g_notInL (ss := fs) (.of ef) ?_
      walk_at "gg"
      by_cases hx : f ∈ fs
      · refine g_F (by rw [decide_eq_true hx]; rfl) ?_
        walk_at "gg"
        refine g_seqL ?_
        walk_at "gg"
        exact rest kl H ⟨by rw [hp]; exact ek, .refl _, by rw [hp]; exact if_pos hx⟩
      · refine g_T (by rw [decide_eq_false hx]; rfl) ?_
        walk_at "gg"
        have := q H (.refl _)
        rwa [hp, show (Part.fn f).odd fs sc = some f from if_neg hx] at this
  rintro k1 H1 ⟨ek1, s1, hodd⟩
  have t1 := t.mono (Same.tk s1)
  have ef1 := s1 _ _ ef
  refine inner_kids (K := K) t1 hs fun lk us H2 nk el tk s2 => ?_
  refine g_isL (.of el) ?_
  have hul : us.length = p.kids.length := by rw [tk.length, List.length_map]
  rw [hodd] at q
  refine for_L (xs := us) (fun i σ H' => ∃ y4 y5, σ = [some (.ref a), some (.ref k1), some (.ref fl), none, y4, y5] ∧ Same H2 H' ∧ oddL fs (p.scope sc) (p.kids.drop i) = oddL fs (p.scope sc) p.kids) (fun i σ H' ⟨_, _, _, s, _⟩ => s _ _ el) ⟨_, _, rfl, .refl _, rfl⟩ ?_ ?_
  · rintro i x σ H3 hx ⟨y4, y5, rfl, s3, ho⟩
    obtain ⟨d, hd, tx⟩ := tk.get hx
    rw [List.getElem?_map] at hd
    obtain ⟨p2, hp2, rfl⟩ := Option.map_eq_some_iff.mp hd
    have hm2 := List.mem_of_getElem? hp2
    have := mxd_mem hm2
    have := sz_mem hm2
    have s23 := s2.trans s3
    rw [oddL_at hp2] at ho
    walk_at "gg"
    refine ⟨x, k1, fl, p2, fs, p.scope sc, rfl, tx.mono (Same.tk s3), hs.kids p2 hm2, by omega, by omega, s23 _ _ ek1, s23 _ _ ef1, hsl, fun H4 s4 => ?_⟩
    walk_at "gg"
    cases hp : p2.odd fs (p.scope sc) with
    | none =>
      rw [hp, Option.none_or] at ho
      refine g_F (by decide +kernel) ?_
      walk_at "gg"
      exact ⟨_, _, rfl, s3.trans s4, ho⟩
    | some z =>
      have hz := Part.odd_name (hs.kids p2 hm2) hp
      have hne : z ≠ "" := by rintro rfl; exact absurd hz.1 (by decide +kernel)
      refine g_T (by show (!decide (z = "")) = true; rw [decide_eq_false hne]; rfl) ?_
      walk_at "gg"
      rw [hp] at ho
      have := q H4 (s1.trans (s23.trans s4))
      rwa [show oddL fs (p.scope sc) p.kids = some z from by rw [← ho]; rfl] at this
  · rintro σ H3 ⟨y4, y5, rfl, s3, ho⟩
    rw [hul, List.drop_length] at ho
    walk_at "gg"
    have := q H3 (s1.trans (s2.trans s3))
    rwa [← ho] at this

/-! ### what is due -/
theorem wordE_t : wordE "Twice" = "twice" ∧ wordE "Hidden" = "hidden" ∧ wordE "Stranger" = "stranger" := by decide +kernel
theorem pure_due {K : PySem.W.Frag} {w : World} : PureOk 1 spToldX (t_law_due K w spIsFunctionX spIsBodyX (spLets 12) (spStrange 12)) 8 := by
  refine ⟨fun vs H Q E ⟨_, _, e, _⟩ => by rw [e]; rfl, ?_⟩
  rintro vs H Q E ⟨v, d, rfl, t, qno, qP⟩
  show t_law_due K w _ _ _ _ _ [some v, none, none, none, none, none, none, none] H
  unfold t_law_due
  have hno : builtM d = false → ∀ (t : Addr) H', H' t = some (.tup [.str "program", .str ""]) → Same H H' → Q (.ref t) H' := fun h t H' e s => qno h t H' s e
  walk_at "gg"
  refine g_isiTup t ?_
  walk_at "gg"
  cases d with
  | tuple ds =>
    refine g_F rfl ?_
    obtain ⟨a, xs, rfl, ea, ts⟩ := t.tup_inv
    have hl := ts.length
    walk_at "gg"
    match ds, t, ts, hl, hno, qP with
    | [d1, d2], t, ts, hl, hno, qP =>
      refine g_F (by rw [decide_eq_true (by rw [hl]; rfl)]; rfl) ?_
      obtain ⟨x1, us1, rfl, t1, tsb⟩ := ts.cons_inv
      obtain ⟨x2, us2, rfl, t2, tsc⟩ := tsb.cons_inv
      rw [tsc.nil_inv] at ea
      clear tsb tsc ts
      walk_at "gg"
      refine g_isiTup t1 ?_
      walk_at "gg"
      cases d1 with
      | tuple fs =>
        refine g_F rfl ?_
        obtain ⟨b, ys, rfl, eb, ty⟩ := t1.tup_inv
        have hyl := ty.length
        have hbm : builtM (.tuple [.tuple fs, d2]) = (decide (fs.length ≤ 8) && (fs.all functionM && bodyM d2)) := rfl
        walk_at "gg"
        by_cases h8 : fs.length ≤ 8
        rotate_left
        · refine g_T (decide_eq_true (by omega)) ?_
          walk_at "gg"
          rename_i t3 H3 n3 e3 s3
          exact hno (by rw [hbm, decide_eq_false h8, Bool.false_and]) t3 H3 e3 s3
        refine g_F (decide_eq_false (by omega)) ?_
        walk_at "gg"
        refine g_seqT ?_
        walk_at "gg"
        refine lc_sift (K := K) ys.length (fun i => match fs[i]? with | some d => !functionM d | none => false) (fun i H' hi s => ⟨_, _, .of (s _ _ eb), List.getElem?_eq_getElem hi⟩) (fun H' s => ⟨_, .of (s _ _ eb), Nat.le_refl _⟩) (by omega) ?_ ?_
        · rintro i x H' H'' Na Nb hi s ⟨rfl, hx⟩ hA hB
          obtain ⟨dn, hdn, tn⟩ := (ty.mono (Same.tl s)).get (hx _ (.of (s _ _ eb)))
          rw [hdn] at hA hB
          walk_at "gg"
          refine ⟨rfl, ?_⟩
          walk_at "gg"
          refine ⟨x, dn, rfl, tn, fun H5 s5 => ?_⟩
          walk_at "gg"
          refine g_ite (fun h => ?_) (fun h => ?_)
          · walk_at "gg"
            exact hA _ _ h s5
          · exact hB _ h s5
        intro D zs H1 nD eD hzs s1
        rw [hyl, range_all fs functionM _ (fun i d hd => by rw [hd]; simp)] at hzs
        walk_at "gg"
        rename_i l2 H2 n2 e2 s2
        have s02 := s1.trans s2
        by_cases hf : fs.all functionM = true
        rotate_left
        · refine g_T (by rw [hzs]; simpa using hf) ?_
          walk_at "gg"
          rename_i t3 H3 n3 e3 s3
          exact hno (by rw [hbm, show fs.all functionM = false from by simpa using hf, Bool.false_and, Bool.and_false]) t3 H3 e3 (s02.trans s3)
        refine g_F (by rw [hzs, hf]; rfl) ?_
        have ea2 := s02 _ _ ea
        walk_at "gg"
        refine ⟨x2, d2, rfl, t2.mono (Same.tl s02), fun H3 s3 => ?_⟩
        have s03 := s02.trans s3
        walk_at "gg"
        by_cases hb : bodyM d2 = true
        rotate_left
        · refine g_T (by rw [show bodyM d2 = false from by simpa using hb]; rfl) ?_
          walk_at "gg"
          rename_i t3 H3 n3 e3 s3
          exact hno (by rw [hbm, show bodyM d2 = false from by simpa using hb, Bool.and_false, Bool.and_false]) t3 H3 e3 (s03.trans s3)
        refine g_F (by rw [hb]; rfl) ?_
        obtain ⟨P, hP, hbd, qn, qe⟩ := qP (by rw [hbm, decide_eq_true h8, hf, hb]; rfl)
        have tP : Tp H3 (.ref a) P.data := by
          rw [← hP]
          exact (t.mono (Same.tl s03)).tp (by rw [hP]; exact P.tpB)
        clear qno qP hno ea eb ty t1 t2 t ea2 hzs eD nD e2 n2 s1 s2 s3 s02 hbm hf hb hyl hl
        obtain ⟨pa, fa, u, vs, hpa, epa3, efa3, tfs3, tas3⟩ := tP.prog
        cases hpa
        have hvl : vs.length = P.fs.length := by rw [tfs3.length, List.length_map]
        have hfew := hbd.few
        walk_at "gg"
        refine g_seqT ?_
        walk_at "gg"
        refine lc_mapT efa3 (by omega) (fun i y H' => ∃ nm, P.names[i]? = some nm ∧ y = .str nm) (fun i y H H' k h => h) ?_ ?_
        · intro i x H' Nx hx s hN
          obtain ⟨d, hd, td⟩ := tfs3.get hx
          rw [List.getElem?_map] at hd
          obtain ⟨f, hf, rfl⟩ := Option.map_eq_some_iff.mp hd
          obtain ⟨a3, b3, u3, rfl, ea3, eb3, tu3⟩ := td.fn1
          walk_at "gg"
          refine ⟨rfl, ?_⟩
          walk_at "gg"
          exact hN _ _ (.refl _) ⟨f.name, by show (P.fs.map _)[i]? = _; rw [List.getElem?_map, hf]; rfl, rfl⟩
        intro D ys2 H4 nD eD hys hF s4
        have hnl : P.names.length = P.fs.length := by show (P.fs.map _).length = _; rw [List.length_map]
        have hys2 : ys2 = P.names.map V.str := by
          refine List.ext_getElem? fun i => ?_
          cases e : ys2[i]? with
          | none =>
            rw [List.getElem?_eq_none_iff] at e
            rw [List.getElem?_eq_none (by rw [List.length_map]; omega)]
          | some y =>
            obtain ⟨nm, hq, rfl⟩ := hF i y e
            rw [List.getElem?_map, hq]
            rfl
        subst hys2
        have epa4 := s4 _ _ epa3
        have efa4 := s4 _ _ efa3
        have tfs4 := tfs3.mono (Same.tk s4)
        have tas4 := tas3.mono (Same.tk s4)
        have s04 := s03.trans s4
        clear epa3 efa3 tfs3 tas3 s4 hF nD hys tP
        walk_at "gg"
        have hj : ((P.names.map V.str).length : Int).toNat = P.names.length := by rw [List.length_map]; omega
        refine g_isrng (by omega) (by rw [List.length_map]; omega) ?_
        rw [hj]
        refine for_any P.names.length (fun i σ H' => ∃ x3, σ = [some (.ref a), none, some (.ref D), x3, none, none, none, none] ∧ Same H4 H' ∧ dupG (P.names.take i) (P.names.drop i) = dupG [] P.names) ⟨_, rfl, .refl _, rfl⟩ (fun i σ H' hi _ => hi) (fun σ H' _ => Nat.le_refl _) ?_ ?_
        · rintro i x σ _ H5 hi ⟨x3, rfl, s5, hdup⟩ ⟨rfl, rfl⟩
          have el1 := s5 _ _ eD
          have hg : P.names[i]? = some P.names[i] := List.getElem?_eq_getElem hi
          rw [dup_at hi] at hdup
          walk_at "gg"
          rw [Int.zero_add]
          refine g_ixL (.of el1) (v := .str P.names[i]) (atI_of (by omega) (by rw [Int.toNat_natCast, List.getElem?_map, hg]; rfl)) ?_
          walk_at "gg"
          refine g_slL (.of el1) ?_
          rw [cut_to]
          walk_at "gg"
          rename_i l6 H6 n6 e6 s6
          refine g_inL (ss := P.names.take i) (.of e6) ?_
          walk_at "gg"
          by_cases hm : P.names[i] ∈ P.names.take i
          · rw [if_pos hm] at hdup
            refine g_T (decide_eq_true hm) ?_
            walk_at "gg"
            refine g_ixL (.of (s6 _ _ el1)) (v := .str P.names[i]) (atI_of (by omega) (by rw [Int.toNat_natCast, List.getElem?_map, hg]; rfl)) ?_
            walk_at "gg"
            rename_i t7 H7 n7 e7 s7
            exact qe "Twice" _ (by unfold lookM; rw [← hdup]) t7 H7 (s04.trans (s5.trans (s6.trans s7))) (by rw [wordE_t.1]; exact e7)
          · rw [if_neg hm] at hdup
            refine g_F (decide_eq_false hm) ?_
            walk_at "gg"
            exact ⟨_, rfl, s5.trans s6, hdup⟩
        rintro σ H5 ⟨x3, rfl, s5, hdup⟩
        rw [List.drop_length] at hdup
        have hlook : lookM P = lookL P.names P.items := by unfold lookM; rw [← hdup]; rfl
        rw [hlook] at qn qe
        have epa5 := s5 _ _ epa4
        have efa5 := s5 _ _ efa4
        have tfs5 := tfs4.mono (Same.tk s5)
        have tas5 := tas4.mono (Same.tk s5)
        have eD5 := s5 _ _ eD
        have s05 := s04.trans s5
        clear epa4 efa4 tfs4 tas4 s04 s5 eD hlook hdup
        walk_at "gg"
        refine g_seqL ?_
        walk_at "gg"
        refine g_seqT ?_
        walk_at "gg"
        refine lc_mapT efa5 (by omega) (fun i y H' => ∃ c b u' f, P.fs[i]? = some f ∧ y = .ref c ∧ H' c = some (.tup [.ref b, u']) ∧ H' b = some (.tup (f.things.map V.str)) ∧ Tp H' u' f.body.data)
          (fun i y H H' k ⟨c, b, u', f, h1, h2, h3, h4, h5⟩ => ⟨c, b, u', f, h1, h2, k _ _ h3, k _ _ h4, h5.mono k⟩) ?_ ?_
        · intro i x H' Nx hx s hN
          obtain ⟨d, hd, td⟩ := (tfs5.mono (Same.tk s)).get hx
          rw [List.getElem?_map] at hd
          obtain ⟨f, hf, rfl⟩ := Option.map_eq_some_iff.mp hd
          obtain ⟨a3, b3, u3, rfl, ea3, eb3, tu3⟩ := td.fn1
          walk_at "gg"
          refine ⟨rfl, ?_⟩
          walk_at "gg"
          rename_i c4 H6 n6 e6 s6
          exact hN _ _ s6 ⟨c4, b3, u3, f, hf, rfl, e6, s6 _ _ eb3, tu3.mono (Same.tk s6)⟩
        intro D2 ys3 H6 nD2 eD2 hys hF s6
        have epa6 := s6 _ _ epa5
        have tas6 := tas5.mono (Same.tk s6)
        have eD6 := s6 _ _ eD5
        have s06 := s05.trans s6
        clear epa5 tas5 eD5 s05 s6 efa5 tfs5
        walk_at "gg"
        rename_i t7 H7 n7 e7 s7 c8 H8 n8 e8 s8 l9 H9 n9 e9 s9 l10 H10 n10 e10 s10
        have s610 : Same H6 H10 := s7.trans (s8.trans (s9.trans s10))
        have hyl3 : ys3.length = P.fs.length := by rw [hys, hvl]
        have hitem : ∀ (i : Nat) x, (ys3 ++ [V.ref c8])[i]? = some x → ∃ c b u' ths bd, P.items[i]? = some (ths, bd) ∧ x = .ref c ∧ H10 c = some (.tup [.ref b, u']) ∧ H10 b = some (.tup ((ths : List Str).map V.str)) ∧ Tp H10 u' (Part.data bd) ∧ bd.bd ∧ ths.length ≤ 4 := by
          intro i x hx
          have hml : (P.fs.map fun f => (f.things, f.body)).length = ys3.length := by rw [List.length_map, hyl3]
          by_cases hi : i < ys3.length
          · rw [List.getElem?_append_left hi] at hx
            obtain ⟨c, b, u', f, h1, h2, h3, h4, h5⟩ := hF i x hx
            have hff := hbd.fs f (List.mem_of_getElem? h1)
            exact ⟨c, b, u', f.things, f.body, by unfold Prog.items; rw [List.getElem?_append_left (by omega), List.getElem?_map, h1]; rfl, h2, s610 _ _ h3, s610 _ _ h4, h5.mono (Same.tk s610), hff.body, hff.few⟩
          · have hj := (List.getElem?_eq_some_iff.mp hx).1
            rw [List.length_append, List.length_singleton] at hj
            have hi' : i = ys3.length := by omega
            subst hi'
            rw [List.getElem?_append_right (Nat.le_refl _), Nat.sub_self] at hx
            cases hx
            exact ⟨c8, t7, u, [], P.asked, by unfold Prog.items; rw [← hml, List.getElem?_append_right (Nat.le_refl _), Nat.sub_self]; rfl, rfl, s10 _ _ (s9 _ _ e8), s10 _ _ (s9 _ _ (s8 _ _ e7)), tas6.mono (Same.tk s610), hbd.asked, by decide⟩
        have hwl : (ys3 ++ [V.ref c8]).length = P.items.length := by unfold Prog.items; rw [List.length_append, List.length_append, List.length_map, hyl3]; rfl
        have s010 := s06.trans s610
        have eD10 := s610 _ _ eD6
        clear hF eD6 tas6 epa6 e7 e8 e9 s7 s8 s9 s10 s610 n7 n8 n9 n10 s06 eD2 nD2
        generalize ys3 ++ [V.ref c8] = ws at *
        refine for_L (xs := ws) (fun i σ H' => ∃ y3 y4 y5 y6 y7, σ = [some (.ref a), none, some (.ref D), y3, y4, y5, y6, y7] ∧ Same H10 H' ∧ lookL P.names (P.items.drop i) = lookL P.names P.items) (fun i σ H' ⟨_, _, _, _, _, _, s, _⟩ => s _ _ e10) ⟨_, _, _, _, _, rfl, .refl _, rfl⟩ ?_ ?_
        rotate_left
        · rintro σ H11 ⟨y3, y4, y5, y6, y7, rfl, s11, hlk⟩
          rw [hwl, List.drop_length] at hlk
          walk_at "gg"
          rename_i t12 H12 n12 e12 s12
          exact qn hlk.symm t12 H12 (s010.trans (s11.trans s12)) e12
        rintro i x σ H11 hx ⟨y3, y4, y5, y6, y7, rfl, s11, hlk⟩
        obtain ⟨c, b, u', ths, bd, hit, rfl, ec, eb, tb, hb, hl4⟩ := hitem i x hx
        rw [lookL_at hit] at hlk
        have ec11 := s11 _ _ ec
        have eb11 := s11 _ _ eb
        have tb11 := tb.mono (Same.tk s11)
        have eD11 := s11 _ _ eD10
        have s011 := s010.trans s11
        clear ec eb tb
        walk_at "gg"
        rename_i l12 H12 n12 e12 s12
        have hrs := bd.rn_size
        have hbz := hb.size
        have hbd' := hb.deep
        refine ⟨u', bd, rfl, tb11.mono (Same.tk s12), hb.shape, hb.deep, hb.size, fun l13 H13 n13 e13 s13 => ?_⟩
        refine g_addL (s13 _ _ e12) e13 (by simp only [List.length_map]; show _ ≤ 16777216; omega) ?_
        walk_at "gg"
        rename_i l14 H14 n14 e14 s14
        rw [← List.map_append] at e14
        have s1114 := s12.trans (s13.trans s14)
        have hkl : (ths ++ bd.rowNames).length ≤ 1000 := by rw [List.length_append]; omega
        have eb14 := s1114 _ _ eb11
        have tb14 := tb11.mono (Same.tk s1114)
        have eD14 := s1114 _ _ eD11
        have s014 := s011.trans s1114
        have hdef : lookF P.names (ths, bd) = (match dupG [] (ths ++ bd.rowNames) with | some x => some (("Hidden" : Str), x) | none => (bd.odd P.names ths).map fun x => (("Stranger" : Str), x)) := rfl
        rw [hdef] at hlk
        have hl2 : (ths.map V.str ++ bd.rowNames.map V.str).length = (ths ++ bd.rowNames).length := by rw [← List.map_append, List.length_map]
        rw [hl2]
        generalize hns : ths ++ bd.rowNames = ns at *
        clear eb11 tb11 eD11 s12 s13 e12 e13 n12 n13 ec11 s14 hns
        have hj2 : ((ns.length : Nat) : Int).toNat = ns.length := by omega
        refine g_isrng (by omega) (by omega) ?_
        rw [hj2]
        refine for_any ns.length (fun i σ H' => ∃ y3, σ = [some (.ref a), none, some (.ref D), y3, some (.ref b), some u', some (.ref l14), y7] ∧ Same H14 H' ∧ dupG (ns.take i) (ns.drop i) = dupG [] ns) ⟨_, rfl, .refl _, rfl⟩ (fun i σ H' hi _ => hi) (fun σ H' _ => Nat.le_refl _) ?_ ?_
        · rintro j x σ _ H15 hj ⟨z3, rfl, s15, hdup⟩ ⟨rfl, rfl⟩
          have el1 := s15 _ _ e14
          have hg : ns[j]? = some ns[j] := List.getElem?_eq_getElem hj
          rw [dup_at hj] at hdup
          walk_at "gg"
          rw [Int.zero_add]
          refine g_ixL (.of el1) (v := .str ns[j]) (atI_of (by omega) (by rw [Int.toNat_natCast, List.getElem?_map, hg]; rfl)) ?_
          walk_at "gg"
          refine g_slL (.of el1) ?_
          rw [cut_to]
          walk_at "gg"
          rename_i l16 H16 n16 e16 s16
          refine g_inL (ss := ns.take j) (.of e16) ?_
          walk_at "gg"
          by_cases hm : ns[j] ∈ ns.take j
          · rw [if_pos hm] at hdup
            refine g_T (decide_eq_true hm) ?_
            walk_at "gg"
            refine g_ixL (.of (s16 _ _ el1)) (v := .str ns[j]) (atI_of (by omega) (by rw [Int.toNat_natCast, List.getElem?_map, hg]; rfl)) ?_
            walk_at "gg"
            rename_i t17 H17 n17 e17 s17
            rw [← hdup] at hlk
            exact qe "Hidden" _ (by rw [← hlk]; rfl) t17 H17 (s014.trans (s15.trans (s16.trans s17))) (by rw [wordE_t.2.1]; exact e17)
          · rw [if_neg hm] at hdup
            refine g_F (decide_eq_false hm) ?_
            walk_at "gg"
            exact ⟨_, rfl, s15.trans s16, hdup⟩
        rintro σ H15 ⟨z3, rfl, s15, hdup⟩
        rw [List.drop_length] at hdup
        rw [← hdup] at hlk
        have hlk' : ((bd.odd P.names ths).map fun x => (("Stranger" : Str), x)).or (lookL P.names (P.items.drop (i + 1))) = lookL P.names P.items := hlk
        have eb15 := s15 _ _ eb14
        have tb15 := tb14.mono (Same.tk s15)
        have eD15 := s15 _ _ eD14
        have s015 := s014.trans s15
        clear eb14 tb14 eD14
        walk_at "gg"
        rename_i l16 H16 n16 e16 s16
        refine ⟨u', l16, D, bd, P.names, ths, rfl, tb15.mono (Same.tk s16), hb.shape, hb.deep, hb.size, e16, s16 _ _ eD15, by omega, fun H17 s17 => ?_⟩
        walk_at "gg"
        cases hp : bd.odd P.names ths with
        | none =>
          rw [hp] at hlk'
          refine g_F (by decide +kernel) ?_
          walk_at "gg"
          exact ⟨_, _, _, _, _, rfl, s11.trans (s1114.trans (s15.trans (s16.trans s17))), hlk'⟩
        | some z =>
          have hz := Part.odd_name hb.shape hp
          have hne : z ≠ "" := by rintro rfl; exact absurd hz.1 (by decide +kernel)
          refine g_T (by show (!decide (z = "")) = true; rw [decide_eq_false hne]; rfl) ?_
          walk_at "gg"
          rename_i t18 H18 n18 e18 s18
          rw [hp] at hlk'
          exact qe "Stranger" z (by rw [← hlk']; rfl) t18 H18 (s015.trans (s16.trans (s17.trans s18))) (by rw [wordE_t.2.2]; exact e18)
      | _ =>
        refine g_T rfl ?_
        walk_at "gg"
        rename_i t3 H3 n3 e3 s3
        exact hno rfl t3 H3 e3 s3
    | [], t, ts, hl, hno, qP =>
      refine g_T (by rw [decide_eq_false (by rw [hl]; show ¬ ((0 : Int) = 2); decide)]; rfl) ?_
      walk_at "gg"
      rename_i t3 H3 n3 e3 s3
      exact hno rfl t3 H3 e3 s3
    | [d1], t, ts, hl, hno, qP =>
      refine g_T (by rw [decide_eq_false (by rw [hl]; show ¬ ((1 : Int) = 2); decide)]; rfl) ?_
      walk_at "gg"
      rename_i t3 H3 n3 e3 s3
      exact hno (by cases d1 <;> rfl) t3 H3 e3 s3
    | d1 :: _ :: _ :: _, t, ts, hl, hno, qP =>
      refine g_T (by rw [decide_eq_false (by rw [hl]; simp only [List.length_cons]; omega)]; rfl) ?_
      walk_at "gg"
      rename_i t3 H3 n3 e3 s3
      exact hno (by cases d1 <;> rfl) t3 H3 e3 s3
  | _ =>
    refine g_T rfl ?_
    walk_at "gg"
    rename_i t3 H3 n3 e3 s3
    exact hno rfl t3 H3 e3 s3

/-! ### texts of any kind read: the plain model -/
inductive Rd (α : Type)
  | bad (at_ : Nat) | ok (a : α) (at_ left : Nat)
def tailS (w : Str) : Str := SX.S (w.cps.toList.drop 1)
def headS (w : Str) : Str := SX.S (w.cps.toList.take 1)
theorem isMark_iff {w m : Str} : isMark w m = true ↔ headS w = m ∧ isName (tailS w) := by
  unfold isMark headS tailS
  rw [Bool.and_eq_true, decide_eq_true_iff, decide_eq_true_iff]
def valW (w : Str) : Int := (PySem.intText? w).getD 0
def okW (w : Str) : Bool := isFigs w || (isMark w "." || (isMark w ":" || ((argsM w).isSome || decide (w = "let"))))
def leafW (w : Str) : Part := if isMark w "." = true then .name (tailS w) else if isMark w ":" = true then .fn (tailS w) else .num (valW w)
def mkOp (w : Str) : List Part → Part
  | [a] => .one (if w = "left" then .left else .right) a
  | [a, b] => .two (if w = "give" then .give else if w = "plus" then .plus else if w = "less" then .less else if w = "times" then .times else if w = "below" then .below else .pair) a b
  | [a, b, c] => .whn a b c
  | _ => .num 0
def cntW (w : Str) : Option Nat := if w = "1" then some 1 else if w = "2" then some 2 else if w = "3" then some 3 else if w = "4" then some 4 else none
section
variable (p : Nat → Nat → Rd Part)
def manyM : Nat → Nat → Nat → Rd (List Part)
  | 0, i, l => .ok [] i l
  | n + 1, i, l => match p i l with
    | .bad j => .bad j
    | .ok a i l => match manyM n i l with
      | .bad j => .bad j
      | .ok as i l => .ok (a :: as) i l
def rowsR (ws : List Str) : Nat → Nat → Nat → Rd Rows
  | 0, i, l => .ok .nil i l
  | n + 1, i, l => match ws[i]? with
    | none => .bad i
    | some w => if isMark w "." = true then (match p (i + 1) l with
      | .bad j => .bad j
      | .ok a i l => match rowsR ws n i l with
        | .bad j => .bad j
        | .ok r i l => .ok (.cons (tailS w) a r) i l) else .bad i
def headM (ws : List Str) (i l : Nat) : Rd Rows := match ws[i]? with
  | none => .bad i
  | some w => match cntW w with
    | none => .bad i
    | some n => rowsR p ws n (i + 1) l
end
def partM (ws : List Str) : Nat → Nat → Nat → Rd Part
  | 0, i, _ => .bad i
  | f + 1, i, l => match ws[i]? with
    | none => .bad i
    | some w => if l = 0 ∨ okW w = false then .bad i else
      match argsM w with
      | some n => (match manyM (partM ws f) n (i + 1) (l - 1) with
        | .bad j => .bad j
        | .ok ps i l => .ok (mkOp w ps) i l)
      | none => if w = "let" then (match headM (partM ws f) ws (i + 1) (l - 1) with
          | .bad j => .bad j
          | .ok r i l => match partM ws f i l with
            | .bad j => .bad j
            | .ok a i l => .ok (.letp r a) i l)
        else .ok (leafW w) (i + 1) (l - 1)
/-! what comes of it -/
theorem digitsVal_lt : ∀ (n : Nat) (cs : List Nat), cs.length = n → (∀ c ∈ cs, 48 ≤ c ∧ c ≤ 57) → NumText.digitsVal cs < 10 ^ n
  | 0, cs, h, _ => by
    rw [List.length_eq_zero_iff.mp h]
    decide
  | n + 1, cs, h, hc => by
    obtain ⟨ds, d, rfl⟩ : ∃ ds d, cs = ds ++ [d] := by
      have : cs ≠ [] := by rintro rfl; cases h
      exact ⟨cs.dropLast, cs.getLast this, (List.dropLast_concat_getLast this).symm⟩
    rw [NumText.digitsVal_snoc]
    have h1 := digitsVal_lt n ds (by simpa using h) fun c hm => hc c (List.mem_append.mpr (.inl hm))
    have h2 := hc d (List.mem_append.mpr (.inr List.mem_cons_self))
    rw [Nat.pow_succ]
    omega
theorem figs_val {w : Str} (h : isFigs w = true) : w.length ≤ 61 ∧ PySem.intText? w = some (valW w) ∧ (valW w).natAbs < 10 ^ 60 := by
  have h' := h
  unfold isFigs at h'
  rw [Bool.and_eq_true, Bool.and_eq_true, Bool.and_eq_true, decide_eq_true_iff, decide_eq_true_iff, List.all_eq_true] at h'
  obtain ⟨⟨h1, h2, h3⟩, _⟩ := h'
  have h3' : ∀ c ∈ figs w, 48 ≤ c ∧ c ≤ 57 := fun c hc => by
    have := h3 c hc
    unfold digc at this
    rw [Bool.and_eq_true, decide_eq_true_iff, decide_eq_true_iff] at this
    exact this
  have hv := digitsVal_lt _ (figs w) rfl h3'
  have hv' : NumText.digitsVal (figs w) < 10 ^ 60 := Nat.lt_of_lt_of_le hv (Nat.pow_le_pow_right (by decide) h2)
  have hne : figs w ≠ [] := fun z => by rw [z] at h1; cases h1
  have hl := lenTl w
  unfold valW
  by_cases hm : w.cps.toList.take 1 = [45]
  · have hf : figs w = w.cps.toList.drop 1 := by unfold figs; rw [if_pos hm]
    have hc : w.cps.toList = 45 :: figs w := by
      rw [hf]
      cases hq : w.cps.toList with
      | nil => rw [hq] at hm; cases hm
      | cons c cs => rw [hq] at hm; cases hm; rfl
    have hlen : w.length ≤ 61 := by rw [← hl, hc, List.length_cons]; omega
    have e := PySem.intText_neg hc h3' hne (by omega)
    rw [e]
    refine ⟨hlen, rfl, ?_⟩
    show (-((NumText.digitsVal (figs w) : Nat) : Int)).natAbs < _
    omega
  · have hf : figs w = w.cps.toList := by unfold figs; rw [if_neg hm]
    rw [hf] at h3' hne hv' h2
    have hlen : w.length ≤ 60 := by rw [← hl]; exact h2
    have e := PySem.intText_digits h3' hne (by omega)
    rw [e]
    exact ⟨by omega, rfl, hv'⟩
theorem okW_leaf {w : Str} (h : okW w = true) (h1 : argsM w = none) (h2 : w ≠ "let") : (leafW w).shape := by
  unfold okW at h
  rw [h1, decide_eq_false h2] at h
  unfold leafW
  by_cases m1 : isMark w "." = true
  · rw [if_pos m1]
    exact (isMark_iff.mp m1).2
  · rw [if_neg m1]
    by_cases m2 : isMark w ":" = true
    · rw [if_pos m2]
      exact (isMark_iff.mp m2).2
    · rw [if_neg m2]
      have : isFigs w = true := by
        rw [Bool.not_eq_true] at m1 m2
        rw [m1, m2] at h
        simpa using h
      exact (figs_val this).2.2
theorem argsM_word {w : Str} {n : Nat} (h : argsM w = some n) : (n = 1 ∧ (w = "left" ∨ w = "right")) ∨ (n = 2 ∧ (w = "give" ∨ w = "plus" ∨ w = "less" ∨ w = "times" ∨ w = "below" ∨ w = "pair")) ∨ (n = 3 ∧ w = "when") := by
  have h' := h
  unfold argsM at h'
  cases e : PARTSkvs.find? fun q => decide (q.1 = w) with
  | none => rw [e] at h'; cases h'
  | some q =>
    have hm := List.mem_of_find?_eq_some e
    have hq : q.1 = w := of_decide_eq_true (List.find?_some (p := fun q : Str × V => decide (q.1 = w)) e)
    rw [e] at h'
    simp only [PARTSkvs, List.mem_cons, List.not_mem_nil, or_false] at hm
    rcases hm with rfl | rfl | rfl | rfl | rfl | rfl | rfl | rfl | rfl <;> (subst hq; cases h'; simp)
theorem mkOp_data {w : Str} {ps : List Part} (h : argsM w = some ps.length) : (mkOp w ps).data = .tuple (.str w :: ps.map Part.data) := by
  rcases argsM_word h with ⟨hn, hw⟩ | ⟨hn, hw⟩ | ⟨hn, hw⟩ <;> clear h
  · match ps, hn with
    | [a], _ => rcases hw with rfl | rfl <;> rfl
  · match ps, hn with
    | [a, b], _ => rcases hw with rfl | rfl | rfl | rfl | rfl | rfl <;> rfl
  · match ps, hn with
    | [a, b, c], _ => subst hw; rfl
/-- what a part that is read is -/
structure Good (ws : List Str) (f i l : Nat) (p : Part) (i' l' : Nat) : Prop where
  sh : p.shape
  dp : p.deep ≤ f
  sz : p.size + l' = l
  go : i < i'
  le : i' ≤ ws.length
theorem many_good {ws : List Str} {f : Nat} {p : Nat → Nat → Rd Part} (hp : ∀ {i l a i' l'}, p i l = .ok a i' l' → Good ws f i l a i' l') : ∀ {n i l : Nat} {as : List Part} {i' l' : Nat}, i ≤ ws.length → manyM p n i l = .ok as i' l' →
    as.length = n ∧ (∀ a ∈ as, a.shape ∧ a.deep ≤ f) ∧ (as.map Part.size).sum + l' = l ∧ i ≤ i' ∧ i' ≤ ws.length
  | 0, i, l, as, i', l', hi, h => by
    cases h
    exact ⟨rfl, by simp, by simp, Nat.le_refl _, hi⟩
  | n + 1, i, l, as, i', l', hi, h => by
    unfold manyM at h
    cases h1 : p i l with
    | bad j => rw [h1] at h; cases h
    | ok a i1 l1 =>
      rw [h1] at h
      have g := hp h1
      dsimp only at h
      cases h2 : manyM p n i1 l1 with
      | bad j => rw [h2] at h; cases h
      | ok as2 i2 l2 =>
        rw [h2] at h
        cases h
        obtain ⟨k1, k2, k3, k4, k5⟩ := many_good hp g.le h2
        refine ⟨by rw [List.length_cons, k1], fun b hb => ?_, ?_, by have := g.go; omega, k5⟩
        · rcases List.mem_cons.mp hb with rfl | hb
          · exact ⟨g.sh, g.dp⟩
          · exact k2 b hb
        · rw [List.map_cons, List.sum_cons]
          have := g.sz
          omega
theorem rows_good {ws : List Str} {f : Nat} {p : Nat → Nat → Rd Part} (hp : ∀ {i l a i' l'}, p i l = .ok a i' l' → Good ws f i l a i' l') : ∀ {n i l : Nat} {r : Rows} {i' l' : Nat}, i ≤ ws.length → rowsR p ws n i l = .ok r i' l' →
    r.names.length = n ∧ (∀ x ∈ r.names, isName x) ∧ r.shape ∧ r.deep ≤ f ∧ r.size + l' = l ∧ i ≤ i' ∧ i' ≤ ws.length
  | 0, i, l, r, i', l', hi, h => by
    cases h
    exact ⟨rfl, by simp [Rows.names], trivial, Nat.zero_le _, by show 0 + _ = _; omega, Nat.le_refl _, hi⟩
  | n + 1, i, l, r, i', l', hi, h => by
    unfold rowsR at h
    cases h0 : ws[i]? with
    | none => rw [h0] at h; cases h
    | some w =>
      rw [h0] at h
      dsimp only at h
      by_cases hm : isMark w "." = true
      · rw [if_pos hm] at h
        cases h1 : p (i + 1) l with
        | bad j => rw [h1] at h; cases h
        | ok a i1 l1 =>
          rw [h1] at h
          have g := hp h1
          dsimp only at h
          cases h2 : rowsR p ws n i1 l1 with
          | bad j => rw [h2] at h; cases h
          | ok r2 i2 l2 =>
            rw [h2] at h
            cases h
            obtain ⟨k1, k2, k3, k4, k5, k6, k7⟩ := rows_good hp g.le h2
            refine ⟨by show r2.names.length + 1 = _; rw [k1], fun x hx => ?_, ⟨g.sh, k3⟩, ?_, ?_, by have := g.go; omega, k7⟩
            · rcases List.mem_cons.mp hx with rfl | hx
              · exact (isMark_iff.mp hm).2
              · exact k2 x hx
            · show max a.deep r2.deep ≤ f
              have := g.dp
              omega
            · show a.size + r2.size + _ = _
              have := g.sz
              omega
      · rw [if_neg hm] at h; cases h
theorem part_good {ws : List Str} : ∀ {f i l : Nat} {p : Part} {i' l' : Nat}, partM ws f i l = .ok p i' l' → Good ws f i l p i' l'
  | 0, i, l, p, i', l', h => by cases h
  | f + 1, i, l, p, i', l', h => by
    unfold partM at h
    cases h0 : ws[i]? with
    | none => rw [h0] at h; cases h
    | some w =>
      rw [h0] at h
      have hi := (List.getElem?_eq_some_iff.mp h0).1
      dsimp only at h
      by_cases hk : l = 0 ∨ okW w = false
      · rw [if_pos hk] at h; cases h
      · rw [if_neg hk] at h
        have hl : l ≠ 0 := fun z => hk (.inl z)
        have hok : okW w = true := by
          cases e : okW w with
          | true => rfl
          | false => exact absurd (.inr e) hk
        cases ha : argsM w with
        | some n =>
          rw [ha] at h
          dsimp only at h
          cases h1 : manyM (partM ws f) n (i + 1) (l - 1) with
          | bad j => rw [h1] at h; cases h
          | ok ps i1 l1 =>
            rw [h1] at h
            cases h
            obtain ⟨k1, k2, k3, k4, k5⟩ := many_good (fun h => part_good h) (by omega) h1
            rcases argsM_word ha with ⟨hn, hw⟩ | ⟨hn, hw⟩ | ⟨hn, hw⟩
            · match ps, k1.trans hn with
              | [a], _ =>
                have k := k2 a List.mem_cons_self
                simp only [List.map_cons, List.map_nil, List.sum_cons, List.sum_nil] at k3
                exact ⟨k.1, by show 1 + a.deep ≤ _; have := k.2; omega, by show 1 + a.size + _ = _; omega, by omega, k5⟩
            · match ps, k1.trans hn with
              | [a, b], _ =>
                have k := k2 a List.mem_cons_self
                have k' := k2 b (by simp)
                simp only [List.map_cons, List.map_nil, List.sum_cons, List.sum_nil] at k3
                exact ⟨⟨k.1, k'.1⟩, by show 1 + max a.deep b.deep ≤ _; have := k.2; have := k'.2; omega, by show 1 + (a.size + b.size) + _ = _; omega, by omega, k5⟩
            · match ps, k1.trans hn with
              | [a, b, c], _ =>
                have k := k2 a List.mem_cons_self
                have k' := k2 b (by simp)
                have k'' := k2 c (by simp)
                simp only [List.map_cons, List.map_nil, List.sum_cons, List.sum_nil] at k3
                exact ⟨⟨k.1, k'.1, k''.1⟩, by show 1 + max a.deep (max b.deep c.deep) ≤ _; have := k.2; have := k'.2; have := k''.2; omega, by show 1 + (a.size + (b.size + c.size)) + _ = _; omega, by omega, k5⟩
        | none =>
          rw [ha] at h
          dsimp only at h
          by_cases hlet : w = "let"
          · rw [if_pos hlet] at h
            cases h1 : headM (partM ws f) ws (i + 1) (l - 1) with
            | bad j => rw [h1] at h; cases h
            | ok r i1 l1 =>
              rw [h1] at h
              dsimp only at h
              cases h2 : partM ws f i1 l1 with
              | bad j => rw [h2] at h; cases h
              | ok a i2 l2 =>
                rw [h2] at h
                cases h
                have g := part_good h2
                unfold headM at h1
                cases h3 : ws[i + 1]? with
                | none => rw [h3] at h1; cases h1
                | some w2 =>
                  rw [h3] at h1
                  dsimp only at h1
                  have hi1 := (List.getElem?_eq_some_iff.mp h3).1
                  cases h4 : cntW w2 with
                  | none => rw [h4] at h1; cases h1
                  | some n =>
                    rw [h4] at h1
                    dsimp only at h1
                    have hn : 1 ≤ n ∧ n ≤ 4 := by
                      unfold cntW at h4
                      split at h4
                      · cases h4; omega
                      · split at h4
                        · cases h4; omega
                        · split at h4
                          · cases h4; omega
                          · split at h4
                            · cases h4; omega
                            · cases h4
                    obtain ⟨k1, k2, k3, k4, k5, k6, k7⟩ := rows_good (fun h => part_good h) (by omega) h1
                    refine ⟨⟨by omega, fun z => by rw [z] at k1; rw [← k1] at hn; exact absurd hn.1 (by decide), k2, k3, g.sh⟩, by show 1 + max r.deep a.deep ≤ _; have := g.dp; omega, by show 1 + (r.size + a.size) + _ = _; have := g.sz; omega, by have := g.go; omega, g.le⟩
          · rw [if_neg hlet] at h
            cases h
            have hs := okW_leaf hok ha hlet
            have hd : (leafW w).deep = 1 ∧ (leafW w).size = 1 := by
              unfold leafW
              split
              · exact ⟨rfl, rfl⟩
              · split <;> exact ⟨rfl, rfl⟩
            exact ⟨hs, by omega, by omega, by omega, by omega⟩
/-! rows, whole texts -/
inductive Rx (α : Type)
  | bad (j : Nat) | ok (a : α)
def partR (ws : List Str) (i : Nat) : Rx Part := match partM ws 12 i 60 with
  | .bad j => .bad j
  | .ok p i' _ => if i' < ws.length then .bad i' else .ok p
/-- how many marks stand from a place on, at most so many -/
def marksM (ws : List Str) : Nat → Nat → List Str
  | 0, _ => []
  | n + 1, i => match ws[i]? with
    | none => []
    | some w => if isMark w "." = true then tailS w :: marksM ws n (i + 1) else []
def fnR (ws : List Str) : Rx Fn1 :=
  if isName ((ws[0]?).getD ("" : Str)) then
    (if ws[1 + (marksM ws 4 1).length]? = some ("=" : Str) then (match partR ws (1 + (marksM ws 4 1).length + 1) with
      | .bad j => .bad j
      | .ok p => .ok ⟨(ws[0]?).getD ("" : Str), marksM ws 4 1, p⟩) else .bad (1 + (marksM ws 4 1).length))
  else .bad 0
inductive Rt
  | bad (r j : Nat) | ok (P : Prog)
def readL : List (List Str) → Nat → List Fn1 → Option Part → Rt
  | [], r, _, none => .bad r 0
  | [], _, fs, some a => .ok ⟨fs, a⟩
  | _ :: _, r, _, some _ => .bad r 0
  | ws :: rest, r, fs, none => if ws[0]? = some ("?" : Str) then (match partR ws 1 with
      | .bad j => .bad r j
      | .ok p => readL rest (r + 1) fs (some p))
    else if fs.length = 8 then .bad r 0
    else match fnR ws with
      | .bad j => .bad r j
      | .ok f => readL rest (r + 1) (fs ++ [f]) none
def rowsOf (t : Str) : List (List Str) := (Txt.split t "\n").map fun l => Txt.split l " "
def readM (t : Str) : Rt := readL (rowsOf t) 0 [] none
theorem partR_bd {ws : List Str} {i : Nat} {p : Part} (h : partR ws i = .ok p) : p.bd := by
  unfold partR at h
  cases h1 : partM ws 12 i 60 with
  | bad j => rw [h1] at h; cases h
  | ok a i' l' =>
    rw [h1] at h
    dsimp only at h
    split at h
    · cases h
    · cases h
      have g := part_good h1
      exact ⟨g.sh, g.dp, by have := g.sz; omega⟩
theorem marksM_ok {ws : List Str} : ∀ {n i : Nat}, (marksM ws n i).length ≤ n ∧ ∀ x ∈ marksM ws n i, isName x
  | 0, i => ⟨Nat.zero_le _, fun x hx => by cases hx⟩
  | n + 1, i => by
    unfold marksM
    split
    · exact ⟨Nat.zero_le _, fun x hx => by cases hx⟩
    · split
      · rename_i h
        obtain ⟨h1, h2⟩ := marksM_ok (ws := ws) (n := n) (i := i + 1)
        refine ⟨by rw [List.length_cons]; omega, fun x hx => ?_⟩
        rcases List.mem_cons.mp hx with rfl | hx
        · exact (isMark_iff.mp h).2
        · exact h2 x hx
      · exact ⟨Nat.zero_le _, fun x hx => by cases hx⟩
theorem fnR_bd {ws : List Str} {f : Fn1} (h : fnR ws = .ok f) : f.bd := by
  unfold fnR at h
  split at h
  · rename_i hn
    split at h
    · cases h1 : partR ws (1 + (marksM ws 4 1).length + 1) with
      | bad j => rw [h1] at h; cases h
      | ok p =>
        rw [h1] at h
        cases h
        exact ⟨hn, marksM_ok.1, marksM_ok.2, partR_bd h1⟩
    · cases h
  · cases h
theorem readL_bd : ∀ {rs : List (List Str)} {r : Nat} {fs : List Fn1} {a : Option Part} {P : Prog}, readL rs r fs a = .ok P → fs.length ≤ 8 → (∀ f ∈ fs, f.bd) → (∀ p, a = some p → p.bd) → P.bd
  | [], r, fs, none, P, h, _, _, _ => by cases h
  | [], r, fs, some a, P, h, h1, h2, h3 => by cases h; exact ⟨h1, h2, h3 a rfl⟩
  | ws :: rest, r, fs, some a, P, h, _, _, _ => by cases h
  | ws :: rest, r, fs, none, P, h, h1, h2, h3 => by
    unfold readL at h
    split at h
    · cases h4 : partR ws 1 with
      | bad j => rw [h4] at h; cases h
      | ok p =>
        rw [h4] at h
        exact readL_bd h h1 h2 fun q hq => by cases hq; exact partR_bd h4
    · split at h
      · cases h
      · cases h4 : fnR ws with
        | bad j => rw [h4] at h; cases h
        | ok f =>
          rw [h4] at h
          refine readL_bd h (by rw [List.length_append, List.length_singleton]; omega) (fun g hg => ?_) fun p hp => by cases hp
          rcases List.mem_append.mp hg with hg | hg
          · exact h2 g hg
          · rw [List.mem_singleton.mp hg]
            exact fnR_bd h4
theorem readM_bd {t : Str} {P : Prog} (h : readM t = .ok P) : P.bd := readL_bd h (by decide) (by simp) fun p hp => by cases hp

/-! ### texts of any kind read: the reader's walks -/
/-- NoText of a row and a word, all but the reader as before -/
def RaisedT (K : PySem.W.Frag) (row j : Int) (a : Addr) (E : XK) (H : Hp) : Prop := ∀ (dd : Addr) (H' : Hp), H dd = none → H' dd = some (.xd [("word", .int j), ("row", .int row)]) → Chg a H H' → E (.ref (He.ga K "NoText")) (some dd) H'
theorem RaisedT.mono {K : PySem.W.Frag} {row j : Int} {a : Addr} {E : XK} {H H1 : Hp} {o : HO} (h : RaisedT K row j a E H) (c : Chg a H H1) (ha : H1 a = some o) : RaisedT K row j a E H1 := fun dd H' n e c' => by
  refine h dd H' ?_ e (c.trans c')
  cases e2 : H dd with
  | none => rfl
  | some o2 =>
    exfalso
    by_cases hd : dd = a
    · rw [hd, ha] at n; cases n
    · rw [c _ _ hd e2] at n; cases n
def ShortW (ws : List Str) : Prop := ∀ w ∈ ws, w.length ≤ 16777216
def spRefX (K : PySem.W.Frag) : Sp := fun vs H _ E => ∃ (a dx wl : Addr) (ws : List Str) (i n : Nat) (row : Int), vs = [.ref a] ∧ RdAt K H a ws i n dx wl row ∧ RaisedT K row i a E H
theorem pure_refX {K : PySem.W.Frag} {w : World} (R : RdK K) : PureOkX 1 (spRefX K) (tx_PartReader_refuse K w (spXInit2 K (He.ga K "NoText") "row" "word")) 1 := by
  refine ⟨fun vs H Q E ⟨_, _, _, _, _, _, _, e, _⟩ => by rw [e]; rfl, ?_⟩
  rintro vs H Q E ⟨a, dx, wl, ws, i, n, row, rfl, r, q⟩
  show tx_PartReader_refuse K w _ E _ [some (.ref a)] H
  unfold tx_PartReader_refuse
  have hc := R.c
  have h1 := R.row
  have h2 := R.at_
  have ea := r.at_
  walk_at "gg"
  exact g_raise2 fun d H' hn e s => q d H' hn e (Chg.same s)
def spNowX (K : PySem.W.Frag) : Sp := fun vs H Q E => ∃ (a dx wl : Addr) (ws : List Str) (i n : Nat) (row : Int), vs = [.ref a] ∧ RdAt K H a ws i n dx wl row ∧ (i = ws.length → RaisedT K row i a E H) ∧ i ≤ ws.length ∧ ∀ s, ws[i]? = some s → Q (.str s) H
theorem pure_nowX {K : PySem.W.Frag} {w : World} (R : RdK K) : PureOkX 1 (spNowX K) (tx_PartReader_now K w (spRefX K)) 1 := by
  refine ⟨fun vs H Q E ⟨_, _, _, _, _, _, _, e, _⟩ => by rw [e]; rfl, ?_⟩
  rintro vs H Q E ⟨a, dx, wl, ws, i, n, row, rfl, r, qe, hle, q⟩
  show tx_PartReader_now K w _ E _ [some (.ref a)] H
  unfold tx_PartReader_now
  have hc := R.c
  have h1 := R.words
  have h2 := R.at_
  have ea := r.at_
  have ew := r.wl
  have hf := r.few
  walk_at "gg"
  by_cases hi : i = ws.length
  · refine g_T (decide_eq_true (by rw [List.length_map]; omega)) ?_
    walk_at "gg"
    exact ⟨a, dx, wl, ws, i, n, row, rfl, r, qe hi⟩
  refine g_F (decide_eq_false (p := ((i : Int) = ((ws.map V.str).length : Int))) (by rw [List.length_map]; omega)) ?_
  obtain ⟨s, hs⟩ : ∃ s, ws[i]? = some s := ⟨_, List.getElem?_eq_getElem (by omega)⟩
  walk_at "gg"
  refine g_ixL (.of ew) (v := .str s) (atI_of (by omega) (by rw [Int.toNat_natCast, List.getElem?_map, hs]; rfl)) ?_
  exact q s hs
def spMarkX (K : PySem.W.Frag) : Sp := fun vs H Q E => ∃ (a dx wl : Addr) (ws : List Str) (i n : Nat) (row : Int), vs = [.ref a] ∧ RdAt K H a ws i n dx wl row ∧ ShortW ws ∧ i ≤ ws.length ∧ ((∀ s, ws[i]? = some s → isMark s "." = false) → RaisedT K row i a E H) ∧
  ∀ s, ws[i]? = some s → isMark s "." = true → ∀ H', RdAt K H' a ws (i + 1) n dx wl row → Chg a H H' → Q (.str (tailS s)) H'
theorem pure_markX {K : PySem.W.Frag} {w : World} (R : RdK K) : PureOkX 1 (spMarkX K) (tx_PartReader_mark K w (spNowX K) spIsMark (spRefX K)) 2 := by
  refine ⟨fun vs H Q E ⟨_, _, _, _, _, _, _, e, _⟩ => by rw [e]; rfl, ?_⟩
  rintro vs H Q E ⟨a, dx, wl, ws, i, n, row, rfl, r, hsh, hle, qe, q⟩
  show tx_PartReader_mark K w _ _ _ E _ [some (.ref a), none] H
  unfold tx_PartReader_mark
  have hc := R.c
  have h2 := R.at_
  have ea := r.at_
  walk_at "gg"
  refine ⟨a, dx, wl, ws, i, n, row, rfl, r, fun hi => qe fun s hs => ?_, hle, fun s hs => ?_⟩
  · rw [List.getElem?_eq_none (by omega)] at hs; cases hs
  have hl := hsh s (List.mem_of_getElem? hs)
  walk_at "gg"
  refine ⟨s, _, rfl, hl, fun H1 s1 => ?_⟩
  walk_at "gg"
  cases hm : isMark s "." with
  | false =>
    walk_at "gg"
    exact ⟨a, dx, wl, ws, i, n, row, rfl, r.same s1, (qe fun s' hs' => by rw [hs] at hs'; cases hs'; exact hm).mono (Chg.same s1) (s1 _ _ ea)⟩
  | true =>
    walk_at "gg"
    refine g_sfldr (s1 _ _ ea) hc h2 (by show 4 < 1000; decide) rdF_at fun H2 e2 c2 => ?_
    walk_at "gg"
    refine g_slS hl ?_
    rw [cut2]
    have c02 : Chg a H H2 := (Chg.same s1).trans c2
    exact q s hs hm H2 ⟨e2, c02 _ _ r.ne r.wl, r.few⟩ c02
theorem okW_known {s : Str} : okW s = (isKnown s || ((argsM s).isSome || decide (s = "let"))) := by
  unfold okW isKnown
  cases isFigs s <;> cases isMark s "." <;> cases isMark s ":" <;> rfl
def spBeginX (K : PySem.W.Frag) : Sp := fun vs H Q E => ∃ (a dx wl : Addr) (ws : List Str) (i n d : Nat) (row : Int), vs = [.ref a, .int d] ∧ RdAt K H a ws i n dx wl row ∧ ShortW ws ∧ i ≤ ws.length ∧
  ((∀ s, ws[i]? = some s → 12 < d ∨ n = 0 ∨ okW s = false) → RaisedT K row i a E H) ∧ ∀ s, ws[i]? = some s → d ≤ 12 → n ≠ 0 → okW s = true → ∀ H', RdAt K H' a ws (i + 1) (n - 1) dx wl row → Chg a H H' → Q (.str s) H'
def beginR (K : PySem.W.Frag) (w : World) (E : XK) : TS := (tSeq (tIfS (tOr (tTest (tOp rGtG (tVar 1) (tC (.int 12)))) (tOr (tTest (tOp (rEqG K) (tFld K (tVar 0) "left") (tC (.int 0)))) (tAnd (tNot (tTru K (tVar 3))) (tAnd (tTest (tOp (rInG K w true) (tVar 2) (tC (.ref (He.ga K "PARTS"))))) (tTest (tOp (rNeG K) (tVar 2) (tC (.str "let")))))))) (tDrop (tMeth (He.ga K "PartReader") "refuse" (spRefX K) [] E (tVar 0) tNil)) tNext)
  (tSeq (sFld K (tVar 0) (tOp rSubG (tFld K (tVar 0) "left") (tC (.int 1))) "left")
  (tSeq (sFld K (tVar 0) (tOp (rAddG K) (tFld K (tVar 0) "at") (tC (.int 1))) "at")
  (tRet (tVar 2)))))
theorem beginR_ok {K : PySem.W.Frag} {w : World} (T : KTab K w (He.ga K "PARTS") PARTSkvs) (R : RdK K) {H : Hp} {Q : VK} {E : XK} {D : Ends} {a dx wl : Addr} {ws : List Str} {i n d : Nat} {row : Int} {s : Str} (r : RdAt K H a ws i n dx wl row)
    (qe : 12 < d ∨ n = 0 ∨ okW s = false → RaisedT K row i a E H) (q : d ≤ 12 → n ≠ 0 → okW s = true → ∀ H', RdAt K H' a ws (i + 1) (n - 1) dx wl row → Chg a H H' → Q (.str s) H') (hD : D.rt = Q) :
    beginR K w E D [some (.ref a), some (.int d), some (.str s), some (.bl (isKnown s))] H := by
  subst hD
  unfold beginR
  have hc := R.c
  have h2 := R.at_
  have h3 := R.left
  have ea := r.at_
  have bad : 12 < d ∨ n = 0 ∨ okW s = false → ∀ {Q' : VK}, spRefX K ([.ref a] ++ []) H Q' E := fun h Q' => ⟨a, dx, wl, ws, i, n, row, rfl, r, qe h⟩
  walk_at "gg"
  by_cases hd : 12 < d
  · refine g_T (decide_eq_true (by omega)) ?_
    walk_at "gg"
    exact bad (.inl hd)
  refine g_F (decide_eq_false (by omega)) ?_
  walk_at "gg"
  by_cases hn : n = 0
  · refine g_T (decide_eq_true (by omega)) ?_
    walk_at "gg"
    exact bad (.inr (.inl hn))
  refine g_F (decide_eq_false (by omega)) ?_
  have hw : okW s = true → ∀ kv H2, H2 a = some (.ins (He.ga K "PartReader") dx (rdF row wl i ((n : Int) - 1))) → Chg a H H2 →
      tSeq (sFld K (tVar 0) (tOp (rAddG K) (tFld K (tVar 0) "at") (tC (.int 1))) "at") (tRet (tVar 2)) D [some (.ref a), some (.int d), some (.str s), some (.bl kv)] H2 := by
    intro hok kv H2 e2 c2
    rw [show ((n : Int) - 1) = ((n - 1 : Nat) : Int) from by omega] at e2
    walk_at "gg"
    refine g_sfldr e2 hc h2 (by show 4 < 1000; decide) rdF_at fun H3 e3 c3 => ?_
    walk_at "gg"
    have c := c2.trans c3
    exact q (by omega) hn hok H3 ⟨e3, c _ _ r.ne r.wl, r.few⟩ c
  walk_at "gg"
  have hk := okW_known (s := s)
  cases hkn : isKnown s with
  | true =>
    rw [hkn, Bool.true_or] at hk
    walk_at "gg"
    exact g_sfldr ea hc h3 (by show 4 < 1000; decide) rdF_left fun H2 e2 c2 => hw hk _ H2 e2 c2
  | false =>
    rw [hkn, Bool.false_or] at hk
    walk_at "gg"
    cases ha : (argsM s).isSome with
    | true =>
      rw [ha, Bool.true_or] at hk
      refine g_inK' T (r := true) (by rw [(args_find s).1, ha]) ?_
      walk_at "gg"
      exact g_sfldr ea hc h3 (by show 4 < 1000; decide) rdF_left fun H2 e2 c2 => hw hk _ H2 e2 c2
    | false =>
      rw [ha, Bool.false_or] at hk
      refine g_inK' T (r := false) (by rw [(args_find s).1, ha]) ?_
      walk_at "gg"
      by_cases hl : s = "let"
      · rw [decide_eq_true hl] at hk
        refine g_F (by rw [decide_eq_true hl]; rfl) ?_
        walk_at "gg"
        exact g_sfldr ea hc h3 (by show 4 < 1000; decide) rdF_left fun H2 e2 c2 => hw hk _ H2 e2 c2
      · rw [decide_eq_false hl] at hk
        refine g_T (by rw [decide_eq_false hl]; rfl) ?_
        walk_at "gg"
        exact bad (.inr (.inr hk))
theorem pure_beginX {K : PySem.W.Frag} {w : World} (T : KTab K w (He.ga K "PARTS") PARTSkvs) (R : RdK K) : PureOkX 2 (spBeginX K) (tx_PartReader_begin K w (spNowX K) spIsFigs spIsMark (spRefX K)) 4 := by
  refine ⟨fun vs H Q E ⟨_, _, _, _, _, _, _, _, e, _⟩ => by rw [e]; rfl, ?_⟩
  rintro vs H Q E ⟨a, dx, wl, ws, i, n, d, row, rfl, r, hsh, hle, qe, q⟩
  show tx_PartReader_begin K w _ _ _ _ E _ [some (.ref a), some (.int d), none, none] H
  unfold tx_PartReader_begin
  have ea := r.at_
  walk_at "gg"
  refine ⟨a, dx, wl, ws, i, n, row, rfl, r, fun hi => qe fun s hs => ?_, hle, fun s hs => ?_⟩
  · rw [List.getElem?_eq_none (by omega)] at hs; cases hs
  have hl := hsh s (List.mem_of_getElem? hs)
  walk_at "gg"
  refine ⟨s, rfl, hl, fun H1 s1 => ?_⟩
  have fin : ∀ H1, Same H H1 → ∀ D : Ends, D.rt = Q → beginR K w E D [some (.ref a), some (.int d), some (.str s), some (.bl (isKnown s))] H1 := fun H1 s1 D hD => beginR_ok (w := w) (Q := Q) (d := d) T R (r.same s1)
    (fun h => (qe fun s' hs' => by rw [hs] at hs'; cases hs'; exact h).mono (Chg.same s1) (s1 _ _ ea)) (fun h1 h2 h3 H' r' c => q s hs h1 h2 h3 H' r' ((Chg.same s1).trans c)) hD
  have e : isKnown s = (isFigs s || (isMark s "." || isMark s ":")) := rfl
  cases h1 : isFigs s with
  | true =>
    rw [h1, Bool.true_or] at e
    rw [e] at fin
    walk_at "g1"
    exact fin H1 s1 _ rfl
  | false =>
    rw [h1, Bool.false_or] at e
    walk_at "gg"
    refine ⟨s, _, rfl, hl, fun H2 s2 => ?_⟩
    cases h2 : isMark s "." with
    | true =>
      rw [h2, Bool.true_or] at e
      rw [e] at fin
      walk_at "g1"
      exact fin H2 (s1.trans s2) _ rfl
    | false =>
      rw [h2, Bool.false_or] at e
      walk_at "gg"
      refine ⟨s, _, rfl, hl, fun H3 s3 => ?_⟩
      rw [← e]
      walk_at "g1"
      exact fin H3 (s1.trans (s2.trans s3)) _ rfl

/-! ### texts of any kind read: parts -/
def joinR (r : Rows) : Rd Rows → Rd Rows
  | .bad j => .bad j
  | .ok r2 i l => .ok (r.app r2) i l
def joinM (ps : List Part) : Rd (List Part) → Rd (List Part)
  | .bad j => .bad j
  | .ok as i l => .ok (ps ++ as) i l
theorem Rows.app_snoc : ∀ (r : Rows) {x : Str} {a : Part} {s : Rows}, (r.app (.cons x a .nil)).app s = r.app (.cons x a s)
  | .nil, _, _, _ => rfl
  | .cons y b r, x, a, s => by
    show Rows.cons y b _ = Rows.cons y b _
    rw [Rows.app_snoc r]
theorem Rows.app_nil : ∀ (r : Rows), r.app .nil = r
  | .nil => rfl
  | .cons y b r => by
    show Rows.cons y b _ = Rows.cons y b _
    rw [Rows.app_nil r]
theorem cnt_in (w : Str) : inV (.str w) [V.str "1", V.str "2", V.str "3", V.str "4"] = (cntW w).isSome := by
  rw [show [V.str "1", V.str "2", V.str "3", V.str "4"] = [("1" : Str), "2", "3", "4"].map V.str from rfl, inV_str]
  unfold cntW
  by_cases h1 : w = "1"
  · rw [if_pos h1]; exact decide_eq_true (by rw [h1]; simp)
  rw [if_neg h1]
  by_cases h2 : w = "2"
  · rw [if_pos h2]; exact decide_eq_true (by rw [h2]; simp)
  rw [if_neg h2]
  by_cases h3 : w = "3"
  · rw [if_pos h3]; exact decide_eq_true (by rw [h3]; simp)
  rw [if_neg h3]
  by_cases h4 : w = "4"
  · rw [if_pos h4]; exact decide_eq_true (by rw [h4]; simp)
  rw [if_neg h4]
  exact decide_eq_false (by simp [h1, h2, h3, h4])
theorem cnt_val {w : Str} {n : Nat} (h : cntW w = some n) : PySem.intText? w = some (n : Int) ∧ w.length ≤ 640 ∧ 1 ≤ n ∧ n ≤ 4 := by
  unfold cntW at h
  split at h
  · rename_i e; cases h; subst e; exact ⟨by decide +kernel, by decide, by decide, by decide⟩
  · split at h
    · rename_i e; cases h; subst e; exact ⟨by decide +kernel, by decide, by decide, by decide⟩
    · split at h
      · rename_i e; cases h; subst e; exact ⟨by decide +kernel, by decide, by decide, by decide⟩
      · split at h
        · rename_i e; cases h; subst e; exact ⟨by decide +kernel, by decide, by decide, by decide⟩
        · cases h
def spRowsX (K : PySem.W.Frag) (m : Nat) : Sp := fun vs H Q E => ∃ (a dx wl : Addr) (ws : List Str) (i l d f : Nat) (row : Int), vs = [.ref a, .int d] ∧ RdAt K H a ws i l dx wl row ∧ ShortW ws ∧ i ≤ ws.length ∧ d + f = 13 ∧ f < m ∧
  (∀ r i' l', headM (partM ws f) ws i l = .ok r i' l' → ∀ (v : V) H', Tp H' v (.tuple r.datas) → RdAt K H' a ws i' l' dx wl row → Chg a H H' → Q v H') ∧ ∀ j : Nat, headM (partM ws f) ws i l = .bad j → RaisedT K row j a E H
def spPartX (K : PySem.W.Frag) (m : Nat) : Sp := fun vs H Q E => ∃ (a dx wl : Addr) (ws : List Str) (i l d f : Nat) (row : Int), vs = [.ref a, .int d] ∧ RdAt K H a ws i l dx wl row ∧ ShortW ws ∧ i ≤ ws.length ∧ d + f = 13 ∧ f < m ∧
  (∀ p i' l', partM ws f i l = .ok p i' l' → ∀ (v : V) H', Tp H' v p.data → RdAt K H' a ws i' l' dx wl row → Chg a H H' → Q v H') ∧ ∀ j : Nat, partM ws f i l = .bad j → RaisedT K row j a E H
theorem pure_rowsX {K : PySem.W.Frag} {w : World} (R : RdK K) {m : Nat} : PureOkX 2 (spRowsX K m) (tx_PartReader_let_rows K w (spNowX K) (spRefX K) (spMarkX K) (spPartX K m)) 6 := by
  refine ⟨fun vs H Q E ⟨_, _, _, _, _, _, _, _, _, e, _⟩ => by rw [e]; rfl, ?_⟩
  rintro vs H Q E ⟨a, dx, wl, ws, i, l, d, f, row, rfl, rd, hsh, hle, hdf, hfm, q, qe⟩
  show tx_PartReader_let_rows K w _ _ _ _ E _ [some (.ref a), some (.int d), none, none, none, none] H
  unfold tx_PartReader_let_rows
  have hc := R.c
  have hat := R.at_
  have ea := rd.at_
  walk_at "gg"
  refine ⟨a, dx, wl, ws, i, l, row, rfl, rd, fun hi => qe i ?_, hle, fun s hs => ?_⟩
  · unfold headM
    rw [List.getElem?_eq_none (by omega)]
  walk_at "gg"
  rename_i t1 H1 n1 e1 s1
  refine g_slTw e1 ⟨by decide, by decide⟩ ?_
  refine g_notInX e1 rfl (cnt_in s) ?_
  walk_at "gg"
  cases hcn : cntW s with
  | none =>
    walk_at "gg"
    refine ⟨a, dx, wl, ws, i, l, row, rfl, rd.same s1, (qe i ?_).mono (Chg.same s1) (s1 _ _ ea)⟩
    unfold headM
    rw [hs]
    dsimp only
    rw [hcn]
  | some n =>
  obtain ⟨hv, hvl, hn1, hn4⟩ := cnt_val hcn
  have hh : headM (partM ws f) ws i l = rowsR (partM ws f) ws n (i + 1) l := by
    unfold headM
    rw [hs]
    dsimp only
    rw [hcn]
  rw [hh] at q qe
  have hi1 := (List.getElem?_eq_some_iff.mp hs).1
  walk_at "gg"
  refine g_sfldr (s1 _ _ ea) hc hat (by show 4 < 1000; decide) rdF_at fun H2 e2 c2 => ?_
  have c02 : Chg a H H2 := (Chg.same s1).trans c2
  have rd2 : RdAt K H2 a ws (i + 1) l dx wl row := ⟨e2, c02 _ _ rd.ne rd.wl, rd.few⟩
  walk_at "gg"
  rename_i fl H3 n3 e3 s3
  refine g_intT hv hvl ?_
  refine g_isrng (by omega) (by omega) ?_
  rw [Int.toNat_natCast]
  have hnf : fl ≠ a := (ne_of_none e2 n3).symm
  have hnw : fl ≠ wl := (ne_of_none rd2.wl n3).symm
  have n3' : H2 fl = none := n3
  have hfrH : H fl = none := by
    cases h : H fl with
    | none => rfl
    | some o => rw [c02 _ _ hnf h] at n3'; cases n3'
  refine for_any n (fun j σ H' => ∃ (x4 x5 : Option V) (us : List V) (r : Rows) (ij lj : Nat), σ = [some (.ref a), some (.int d), some (.str s), some (.ref fl), x4, x5] ∧ H' fl = some (.lst us) ∧ us.length = j ∧ Tps H' us r.datas ∧
      RdAt K H' a ws ij lj dx wl row ∧ ij ≤ ws.length ∧ rowsR (partM ws f) ws n (i + 1) l = joinR r (rowsR (partM ws f) ws (n - j) ij lj) ∧ Chg a H H')
    ⟨none, none, [], .nil, i + 1, l, rfl, e3, rfl, .nil, rd2.same s3, by omega, ?_, c02.trans (.same s3)⟩ (fun j σ H' hj _ => hj) (fun σ H' _ => Nat.le_refl _) ?_ ?_
  · rw [Nat.sub_zero]
    cases rowsR (partM ws f) ws n (i + 1) l <;> rfl
  · rintro j x σ _ H5 hj ⟨x4, x5, us, r, ij, lj, rfl, ef, hul, tus, rd5, hij, heq, c5⟩ ⟨rfl, rfl⟩
    obtain ⟨k, hk⟩ : ∃ k, n - j = k + 1 := ⟨n - j - 1, by omega⟩
    rw [hk] at heq
    have ea5 := rd5.at_
    walk_at "gg"
    refine ⟨a, dx, wl, ws, ij, lj, row, rfl, rd5, hsh, hij, fun hb => (qe ij ?_).mono c5 ea5, fun sm hsm hmk H6 rd6 c6 => ?_⟩
    · rw [heq]
      unfold rowsR
      cases h0 : ws[ij]? with
      | none => rfl
      | some w0 =>
        dsimp only
        rw [if_neg (by rw [hb w0 h0]; decide)]
        rfl
    have hij1 := (List.getElem?_eq_some_iff.mp hsm).1
    have heq2 : rowsR (partM ws f) ws (k + 1) ij lj = (match partM ws f (ij + 1) lj with
      | .bad j => .bad j
      | .ok a i l => match rowsR (partM ws f) ws k i l with
        | .bad j => .bad j
        | .ok r i l => .ok (.cons (tailS sm) a r) i l) := by
      rw [rowsR, hsm]
      dsimp only
      rw [if_pos hmk]
      all_goals
        cases partM ws f (ij + 1) lj with
        | bad j => rfl
        | ok a i1 l1 =>
          dsimp only
          cases rowsR (partM ws f) ws k i1 l1 <;> rfl
    rw [heq2] at heq
    have ea6 := rd6.at_
    have ef6 := c6 _ _ hnf ef
    walk_at "gg"
    refine ⟨a, dx, wl, ws, ij + 1, lj, d, f, row, rfl, rd6, hsh, hij1, hdf, hfm, fun p i7 l7 hp v H7 tv rd7 c7 => ?_, fun j2 hp => (qe j2 ?_).mono (c5.trans c6) ea6⟩
    rotate_left
    · rw [heq, hp]
      rfl
    rw [hp] at heq
    dsimp only at heq
    have ef7 := c7 _ _ hnf ef6
    walk_at "gg"
    rename_i t8 H8 n8 e8 s8
    have ef8 := s8 _ _ ef7
    refine g_append ef8 (by rw [hul]; show _ < 16777216; omega) fun H9 e9 c9 => ?_
    walk_at "gg"
    have k57 : Tk H5 H7 := (rd5.tk c6).trans (rd6.tk c7)
    have k89 : Tk H8 H9 := c9.tkl ef8
    have k79 : Tk H7 H9 := (Same.tk s8).trans k89
    refine ⟨_, _, us ++ [.ref t8], r.app (.cons (tailS sm) p .nil), i7, l7, rfl, e9, by rw [List.length_append, hul]; rfl, ?_, (rd7.same s8).chg c9 hnf.symm hnw.symm, (part_good hp).le, ?_, ?_⟩
    · rw [Rows.app_datas]
      exact (tus.mono (k57.trans k79)).append (.one (.tup (k89 _ _ e8) (.cons (.str _) (.one (tv.mono k79)))))
    · rw [heq, show n - (j + 1) = k from by omega]
      cases rowsR (partM ws f) ws k i7 l7 with
      | bad j => rfl
      | ok r3 i3 l3 =>
        show Rd.ok _ _ _ = Rd.ok _ _ _
        rw [Rows.app_snoc]
    · exact fun b o hb e => c9 _ _ (fun z => by rw [z, hfrH] at e; cases e) (s8 _ _ (c7 _ _ hb (c6 _ _ hb (c5 b o hb e))))
  rintro σ H5 ⟨x4, x5, us, r, ij, lj, rfl, ef, hul, tus, rd5, hij, heq, c5⟩
  rw [Nat.sub_self] at heq
  have heq' : rowsR (partM ws f) ws n (i + 1) l = .ok r ij lj := by
    rw [heq]
    show Rd.ok (r.app .nil) _ _ = _
    rw [Rows.app_nil]
  walk_at "gg"
  rename_i t6 H6 n6 e6 s6
  exact q r ij lj heq' (.ref t6) H6 (.tup e6 (tus.mono (Same.tk s6))) (rd5.same s6) (c5.trans (.same s6))
/-- the first sign of a leaf's word -/
theorem leaf_first {w : Str} (hok : okW w = true) (ha : argsM w = none) (hl : w ≠ "let") : ∃ c, w.cps.toList[0]? = some c ∧ (isMark w "." = true → c = 46) ∧ (isMark w "." = false → c ≠ 46) ∧ (isMark w ":" = true → c = 58) ∧ (isMark w "." = false → isMark w ":" = false → isFigs w = true ∧ c ≠ 58) := by
  have mk : ∀ {m : Str} {k : Nat}, m = SX.S [k] → isMark w m = true → w.cps.toList[0]? = some k := by
    intro m k hm h
    obtain ⟨h1, _⟩ := isMark_iff.mp h
    unfold headS at h1
    rw [hm] at h1
    have h2 := congrArg (fun z : Str => z.cps.toList) h1
    have h3 : w.cps.toList.take 1 = [k] := by simpa [SX.S] using h2
    cases hq : w.cps.toList with
    | nil => rw [hq] at h3; cases h3
    | cons c cs => rw [hq] at h3; cases h3; rfl
  cases h1 : isMark w "." with
  | true => exact ⟨46, mk (k := 46) rfl h1, fun _ => rfl, fun h => (by cases h), fun h => (Option.some.inj ((mk (k := 46) rfl h1).symm.trans (mk (k := 58) rfl h))), fun h => (by cases h)⟩
  | false =>
    cases h2 : isMark w ":" with
    | true => exact ⟨58, mk (k := 58) rfl h2, fun h => (by cases h), fun _ => (by decide), fun _ => rfl, fun _ h => (by cases h)⟩
    | false =>
      have hf : isFigs w = true := by
        unfold okW at hok
        rw [ha, decide_eq_false hl, h1, h2] at hok
        simpa using hok
      have hf' := hf
      unfold isFigs at hf'
      rw [Bool.and_eq_true, Bool.and_eq_true, Bool.and_eq_true, decide_eq_true_iff, decide_eq_true_iff, List.all_eq_true] at hf'
      obtain ⟨⟨g1, g2, g3⟩, _⟩ := hf'
      cases hq : w.cps.toList with
      | nil => unfold figs at g1; rw [hq] at g1; simp at g1
      | cons c cs =>
        refine ⟨c, rfl, fun h => (by cases h), fun _ => ?_, fun h => (by cases h), fun _ _ => ⟨hf, ?_⟩⟩
        all_goals
          rintro rfl
          have : figs w = w.cps.toList := by unfold figs; rw [hq]; exact if_neg (fun h => by injection h with h1; exact absurd h1 (by decide))
          rw [this, hq] at g3
          have := g3 _ List.mem_cons_self
          exact absurd this (by decide)
theorem partM_bad {ws : List Str} {d f i l : Nat} (hdf : d + f = 13) (h : ∀ s, ws[i]? = some s → 12 < d ∨ l = 0 ∨ okW s = false) : partM ws f i l = .bad i := by
  cases f with
  | zero => rfl
  | succ f =>
    unfold partM
    cases h0 : ws[i]? with
    | none => rfl
    | some s =>
      dsimp only
      rw [if_pos]
      rcases h s h0 with h1 | h1 | h1
      · omega
      · exact .inl h1
      · exact .inr h1
theorem pure_partX {K : PySem.W.Frag} {w : World} (T : KTab K w (He.ga K "PARTS") PARTSkvs) (R : RdK K) {m : Nat} : PureOkX 2 (spPartX K (m + 1)) (tx_PartReader_part K w (spBeginX K) (spPartX K m) (spRowsX K m)) 5 := by
  refine ⟨fun vs H Q E ⟨_, _, _, _, _, _, _, _, _, e, _⟩ => by rw [e]; rfl, ?_⟩
  rintro vs H Q E ⟨a, dx, wl, ws, i, l, d, f, row, rfl, rd, hsh, hle, hdf, hfm, q, qe⟩
  show tx_PartReader_part K w _ _ _ E _ [some (.ref a), some (.int d), none, none, none] H
  unfold tx_PartReader_part
  have ea := rd.at_
  walk_at "gg"
  refine ⟨a, dx, wl, ws, i, l, d, row, rfl, rd, hsh, hle, fun hb => qe i (partM_bad hdf hb), fun s hs hd hl0 hok H1 rd1 c1 => ?_⟩
  obtain ⟨f, rfl⟩ : ∃ f', f = f' + 1 := ⟨f - 1, by omega⟩
  have hi := (List.getElem?_eq_some_iff.mp hs).1
  have hsl := hsh s (List.mem_of_getElem? hs)
  have ea1 := rd1.at_
  have hp0 : partM ws (f + 1) i l = (match argsM s with
      | some n => (match manyM (partM ws f) n (i + 1) (l - 1) with
        | .bad j => .bad j
        | .ok ps i l => .ok (mkOp s ps) i l)
      | none => if s = "let" then (match headM (partM ws f) ws (i + 1) (l - 1) with
          | .bad j => .bad j
          | .ok r i l => match partM ws f i l with
            | .bad j => .bad j
            | .ok a i l => .ok (.letp r a) i l)
        else .ok (leafW s) (i + 1) (l - 1)) := by
    rw [partM, hs]
    dsimp only
    rw [if_neg (by rintro (h | h); exact hl0 h; rw [hok] at h; cases h)]
    all_goals
      cases argsM s with
      | some n =>
        dsimp only
        cases manyM (partM ws f) n (i + 1) (l - 1) <;> rfl
      | none =>
        dsimp only
        by_cases h : s = "let"
        · rw [if_pos h, if_pos h]
          cases headM (partM ws f) ws (i + 1) (l - 1) with
          | bad j => rfl
          | ok r i1 l1 =>
            dsimp only
            cases partM ws f i1 l1 <;> rfl
        · rw [if_neg h, if_neg h]
  rw [hp0] at q qe
  walk_at "gg"
  cases ha : argsM s with
  | some n =>
    rw [ha] at q qe
    dsimp only at q qe
    obtain ⟨ht, hn3, hn1⟩ := (args_find s).2 n ha
    refine g_inK T (r := true) (by rw [(args_find s).1, ha]; rfl) ?_
    walk_at "gg"
    rename_i t2 H2 n2 e2 s2
    refine g_ixKT T (v := .int n) ht ?_
    refine g_isrng (by omega) (by omega) ?_
    rw [Int.toNat_natCast]
    have rd2 := rd1.same s2
    intro D hD
    have hna : D ≠ a := (ne_of_none rd2.at_ hD).symm
    have hnw : D ≠ wl := (ne_of_none rd2.wl hD).symm
    have hn2 : D ≠ t2 := (ne_of_none e2 hD).symm
    have c02 : Chg a H H2 := c1.trans (.same s2)
    have hfrH : H D = none := by
      cases h : H D with
      | none => rfl
      | some o => rw [c02 _ _ hna h] at hD; cases hD
    refine lc_any n (fun j acc H' => ∃ (ps : List Part) (ij lj : Nat), acc.length = j ∧ ps.length = j ∧ Tps H' acc (ps.map Part.data) ∧ RdAt K H' a ws ij lj dx wl row ∧ ij ≤ ws.length ∧ manyM (partM ws f) n (i + 1) (l - 1) = joinM ps (manyM (partM ws f) (n - j) ij lj) ∧
        (∀ b o, b ≠ a → b ≠ D → H2 b = some o → H' b = some o)) hD
      (fun H' e s => ⟨[], i + 1, l - 1, rfl, rfl, .nil, rd2.same s, by omega, by rw [Nat.sub_zero]; cases manyM (partM ws f) n (i + 1) (l - 1) <;> rfl, fun b o _ _ e => s _ _ e⟩) (fun j acc H' hj _ => hj) (fun acc H' _ => Nat.le_refl _) ?_ ?_
    · rintro j x acc _ H5 hj hla ⟨ps, ij, lj, hacc, hpl, tacc, rd5, hij, heq, fr⟩ hd5 ⟨rfl, rfl⟩
      obtain ⟨k, hk⟩ : ∃ k, n - j = k + 1 := ⟨n - j - 1, by omega⟩
      rw [hk, manyM] at heq
      have ea5 := rd5.at_
      have c05 : Chg a H H5 := fun b o hb e => fr b o hb (fun z => by rw [z, hfrH] at e; cases e) (c02 b o hb e)
      walk_at "gg"
      refine ⟨rfl, ?_⟩
      walk_at "gg"
      refine ⟨a, dx, wl, ws, ij, lj, d + 1, f, row, rfl, rd5, hsh, hij, by omega, by omega, fun p i6 l6 hp v H6 tv rd6 c6 => ?_, fun j2 hp => (qe j2 ?_).mono c05 ea5⟩
      rotate_left
      · rw [heq, hp]
        rfl
      rw [hp] at heq
      dsimp only at heq
      have hd6 := c6 _ _ hna hd5
      refine lc_step hd6 hla (by show _ < 16777216; omega) fun H7 e7 c7 => ?_
      have k7 : Tk H6 H7 := c7.tkl hd6
      refine ⟨ps ++ [p], i6, l6, by rw [List.length_append, hacc]; rfl, by rw [List.length_append, hpl]; rfl, ?_, rd6.chg c7 hna.symm hnw.symm, (part_good hp).le, ?_, fun b o hb hbD e => c7 _ _ hbD (c6 _ _ hb (fr b o hb hbD e))⟩
      · rw [List.map_append]
        exact ((tacc.mono (rd5.tk c6)).mono k7).append (.one (tv.mono k7))
      · rw [heq, show n - (j + 1) = k from by omega]
        cases manyM (partM ws f) k i6 l6 with
        | bad j => rfl
        | ok as i3 l3 =>
          show Rd.ok _ _ _ = Rd.ok _ _ _
          rw [List.append_assoc]
          rfl
    · rintro acc H5 hd5 ⟨ps, ij, lj, hacc, hpl, tacc, rd5, hij, heq, fr⟩
      rw [Nat.sub_self] at heq
      have heq' : manyM (partM ws f) n (i + 1) (l - 1) = .ok ps ij lj := by
        rw [heq]
        show Rd.ok (ps ++ []) _ _ = _
        rw [List.append_nil]
      have c05 : Chg a H H5 := fun b o hb e => fr b o hb (fun z => by rw [z, hfrH] at e; cases e) (c02 b o hb e)
      have e25 := fr t2 _ (fun z => by rw [z, rd2.at_] at e2; cases e2) hn2.symm e2
      walk_at "gg"
      rename_i t6 H6 n6 e6 s6
      have hne : acc ≠ [] := fun z => by
        rw [z] at hacc
        rw [← hacc] at hn1
        exact absurd hn1 (by decide)
      refine g_addTn (s6 _ _ e25) e6 (by show 1 + acc.length ≤ 16777216; omega) hne fun t7 H7 e7 s7 => ?_
      walk_at "gg"
      refine q (mkOp s ps) ij lj (by rw [heq']) _ H7 ?_ (rd5.same (s6.trans s7)) (c05.trans (.same (s6.trans s7)))
      rw [mkOp_data (by rw [ha, hpl])]
      exact .tup e7 (.cons (.str _) (tacc.mono (Same.tk (s6.trans s7))))
  | none =>
    rw [ha] at q qe
    dsimp only at q qe
    refine g_inK T (r := false) (by rw [(args_find s).1, ha]; rfl) ?_
    walk_at "gg"
    by_cases hlet : s = "let"
    · rw [if_pos hlet] at q qe
      refine g_T (decide_eq_true hlet) ?_
      walk_at "gg"
      refine ⟨a, dx, wl, ws, i + 1, l - 1, d + 1, f, row, rfl, rd1, hsh, by omega, by omega, by omega, fun r i2 l2 hr v2 H2 tv rd2 c2 => ?_, fun j2 hr => (qe j2 ?_).mono c1 ea1⟩
      rotate_left
      · rw [hr]
      rw [hr] at q qe
      dsimp only at q qe
      have ea2 := rd2.at_
      have hi2 : i2 ≤ ws.length := by
        unfold headM at hr
        cases h3 : ws[i + 1]? with
        | none => rw [h3] at hr; cases hr
        | some w2 =>
          rw [h3] at hr
          dsimp only at hr
          cases h4 : cntW w2 with
          | none => rw [h4] at hr; cases hr
          | some n =>
            rw [h4] at hr
            exact (rows_good (fun h => part_good h) (by have := (List.getElem?_eq_some_iff.mp h3).1; omega) hr).2.2.2.2.2.2
      walk_at "gg"
      refine ⟨a, dx, wl, ws, i2, l2, d + 1, f, row, rfl, rd2, hsh, hi2, by omega, by omega, fun b i3 l3 hb v3 H3 tb rd3 c3 => ?_, fun j2 hb => (qe j2 ?_).mono (c1.trans c2) ea2⟩
      rotate_left
      · rw [hb]
      rw [hb] at q
      walk_at "gg"
      rename_i t4 H4 n4 e4 s4
      exact q _ i3 l3 rfl (.ref t4) H4 (.tup e4 (.cons (.str _) (.cons ((tv.mono (rd2.tk c3)).mono (Same.tk s4)) (.one (tb.mono (Same.tk s4)))))) (rd3.same s4) (c1.trans (c2.trans (c3.trans (Chg.same s4))))
    · rw [if_neg hlet] at q
      refine g_F (decide_eq_false hlet) ?_
      obtain ⟨c, hc0, hc1, hc2, hc3, hc4⟩ := leaf_first hok ha hlet
      walk_at "gg"
      refine g_ixS hsl (c := c) (atI_of (by decide) hc0) ?_
      walk_at "gg"
      have hch : ∀ k : Nat, decide ((⟨#[c]⟩ : Str) = ⟨#[k]⟩) = decide (c = k) := fun k => decide_eq_decide.mpr ⟨fun e => by
        have := congrArg (fun z : Str => z.cps.toList) e
        have h5 : [c] = [k] := this
        injection h5, fun e => by rw [e]⟩
      have q' := q (leafW s) (i + 1) (l - 1) rfl
      unfold leafW at q'
      cases hm1 : isMark s "." with
      | true =>
        rw [hm1, if_pos rfl] at q'
        refine g_T ((hch 46).trans (decide_eq_true (hc1 hm1))) ?_
        walk_at "gg"
        refine g_slS hsl ?_
        rw [cut2]
        walk_at "gg"
        rename_i t2 H2 n2 e2 s2
        exact q' _ H2 (.tup e2 (.cons (.str _) (.one (.str _)))) (rd1.same s2) (c1.trans (Chg.same s2))
      | false =>
        rw [hm1, if_neg (by decide)] at q'
        refine g_F ((hch 46).trans (decide_eq_false (hc2 hm1))) ?_
        walk_at "gg"
        refine g_ixS hsl (c := c) (atI_of (by decide) hc0) ?_
        walk_at "gg"
        cases hm2 : isMark s ":" with
        | true =>
          rw [hm2, if_pos rfl] at q'
          refine g_T ((hch 58).trans (decide_eq_true (hc3 hm2))) ?_
          walk_at "gg"
          refine g_slS hsl ?_
          rw [cut2]
          walk_at "gg"
          rename_i t2 H2 n2 e2 s2
          exact q' _ H2 (.tup e2 (.cons (.str _) (.one (.str _)))) (rd1.same s2) (c1.trans (Chg.same s2))
        | false =>
          rw [hm2, if_neg (by decide)] at q'
          obtain ⟨hfig, hc5⟩ := hc4 hm1 hm2
          obtain ⟨hv1, hv2, hv3⟩ := figs_val hfig
          refine g_F ((hch 58).trans (decide_eq_false hc5)) ?_
          walk_at "gg"
          refine g_intT hv2 (by omega) ?_
          walk_at "gg"
          rename_i t2 H2 n2 e2 s2
          exact q' _ H2 (.tup e2 (.cons (.str _) (.one (.int _)))) (rd1.same s2) (c1.trans (Chg.same s2))

/-! ### texts of any kind read: rows, whole texts -/
def RaisedW (K : PySem.W.Frag) (row j : Int) (E : XK) (H : Hp) : Prop := ∀ (dd : Addr) (H' : Hp), H dd = none → H' dd = some (.xd [("word", .int j), ("row", .int row)]) → Same H H' → E (.ref (He.ga K "NoText")) (some dd) H'
theorem RaisedW.mono {K : PySem.W.Frag} {row j : Int} {E : XK} {H H1 : Hp} (h : RaisedW K row j E H) (s : Same H H1) : RaisedW K row j E H1 := fun dd H' n e s' => h dd H' (s.free n) e (s.trans s')
theorem spl_pieces (S : List Nat) : ∀ (l : List Nat) (k : Nat) (acc : List Nat), TL.spl S k acc l ≠ [] ∧ ∀ p ∈ TL.spl S k acc l, p.length ≤ acc.length + l.length
  | [], k, acc => by rw [TL.spl_nil]; exact ⟨by simp, fun p hp => by rw [List.mem_singleton.mp hp]; exact Nat.le_add_right _ _⟩
  | c :: r, 0, acc => by
    cases h : TL.pre S (c :: r) with
    | true =>
      rw [TL.spl_hit h]
      refine ⟨by simp, fun p hp => ?_⟩
      rcases List.mem_cons.mp hp with rfl | hp
      · exact Nat.le_add_right _ _
      · have := (spl_pieces S r (S.length - 1) []).2 p hp
        rw [List.length_nil] at this
        rw [List.length_cons]; omega
    | false =>
      rw [TL.spl_miss h]
      obtain ⟨h1, h2⟩ := spl_pieces S r 0 (acc ++ [c])
      refine ⟨h1, fun p hp => ?_⟩
      have := h2 p hp
      rw [List.length_append, List.length_singleton] at this
      rw [List.length_cons]; omega
  | c :: r, k + 1, acc => by
    show TL.spl S k acc r ≠ [] ∧ _
    obtain ⟨h1, h2⟩ := spl_pieces S r k acc
    refine ⟨h1, fun p hp => ?_⟩
    have := h2 p hp
    rw [List.length_cons]; omega
theorem split_pieces {x y : Str} (hy : TL.tl y ≠ []) (hk : y.cps.all (· < 256) = true) : Txt.split x y ≠ [] ∧ ∀ p ∈ Txt.split x y, p.length ≤ x.length := by
  have h := TL.split_spl x y hy (TL.kind_ok hk)
  obtain ⟨h1, h2⟩ := spl_pieces (TL.tl y) (TL.tl x) 0 []
  rw [← h] at h1 h2
  refine ⟨fun z => h1 (by rw [z]; rfl), fun p hp => ?_⟩
  have := h2 (TL.tl p) (List.mem_map.mpr ⟨p, hp, rfl⟩)
  rw [List.length_nil, Nat.zero_add] at this
  have e1 : (TL.tl p).length = p.length := lenTl p
  have e2 : (TL.tl x).length = x.length := lenTl x
  omega
def spWholeX (K : PySem.W.Frag) : Sp := fun vs H Q E => ∃ (a dx wl : Addr) (ws : List Str) (i : Nat) (row : Int), vs = [.ref a] ∧ RdAt K H a ws i 60 dx wl row ∧ ShortW ws ∧ i ≤ ws.length ∧ (∀ p, partR ws i = .ok p → ∀ (v : V) H', Tp H' v p.data → Chg a H H' → Q v H') ∧ ∀ j : Nat, partR ws i = .bad j → RaisedT K row j a E H
theorem pure_wholeX {K : PySem.W.Frag} {w : World} (R : RdK K) : PureOkX 1 (spWholeX K) (tx_PartReader_whole K w (spPartX K 13) (spRefX K)) 2 := by
  refine ⟨fun vs H Q E ⟨_, _, _, _, _, _, e, _⟩ => by rw [e]; rfl, ?_⟩
  rintro vs H Q E ⟨a, dx, wl, ws, i, row, rfl, rd, hsh, hle, q, qe⟩
  show tx_PartReader_whole K w _ _ E _ [some (.ref a), none] H
  unfold tx_PartReader_whole
  have ea := rd.at_
  have hc := R.c
  have hat := R.at_
  have hwd := R.words
  unfold partR at q qe
  walk_at "gg"
  refine ⟨a, dx, wl, ws, i, 60, 1, 12, row, rfl, rd, hsh, hle, rfl, by decide, fun p i1 l1 hp v H1 tv rd1 c1 => ?_, fun j hp => qe j (by rw [hp])⟩
  rw [hp] at q qe
  dsimp only at q qe
  have ea1 := rd1.at_
  have ew1 := rd1.wl
  have hf := rd1.few
  have hl1 := (part_good hp).le
  walk_at "gg"
  by_cases hi : i1 < ws.length
  · rw [if_pos hi] at qe
    refine g_T (decide_eq_true (by rw [List.length_map]; omega)) ?_
    walk_at "gg"
    exact ⟨a, dx, wl, ws, i1, l1, row, rfl, rd1, (qe i1 rfl).mono c1 ea1⟩
  · rw [if_neg hi] at q
    refine g_F (decide_eq_false (by rw [List.length_map]; omega)) ?_
    walk_at "gg"
    exact q p rfl v H1 tv c1
def spReadPartX (K : PySem.W.Frag) : Sp := fun vs H Q E => ∃ (wl : Addr) (ws : List Str) (i : Nat) (row : Int), vs = [.int row, .ref wl, .int i] ∧ H wl = some (.lst (ws.map V.str)) ∧ ws.length ≤ 100000 ∧ ShortW ws ∧ i ≤ ws.length ∧
  (∀ p, partR ws i = .ok p → ∀ (v : V) H', Tp H' v p.data → Same H H' → Q v H') ∧ ∀ j : Nat, partR ws i = .bad j → RaisedW K row j E H
theorem pure_readpartX {K : PySem.W.Frag} {w : World} : PureOkX 3 (spReadPartX K) (tx_read_part K w (spRInit K) (spWholeX K)) 3 := by
  refine ⟨fun vs H Q E ⟨_, _, _, _, e, _⟩ => by rw [e]; rfl, ?_⟩
  rintro vs H Q E ⟨wl, ws, i, row, rfl, ew, hf, hsh, hle, q, qe⟩
  show tx_read_part K w _ _ E _ [some (.int row), some (.ref wl), some (.int i)] H
  unfold tx_read_part
  walk_at "gg"
  rename_i x dx H1 nx e1 s1
  refine ⟨x, dx, wl, row, i, rfl, e1, fun H2 e2 c2 => ⟨rfl, ?_⟩⟩
  walk_at "gg"
  have hne : wl ≠ x := ne_of_none ew nx
  have rd2 : RdAt K H2 x ws i 60 dx wl row := ⟨e2, c2 _ _ hne (s1 _ _ ew), hf⟩
  refine ⟨x, dx, wl, ws, i, row, rfl, rd2, hsh, hle, fun p hp v H3 tv c3 => ?_, fun j hp dd H3 n3 e3 c3 => ?_⟩
  · exact q p hp v H3 tv (Same.chg s1 nx (c2.trans c3))
  · refine qe j hp dd H3 ?_ e3 (Same.chg s1 nx (c2.trans c3))
    have hdx : dd ≠ x := fun z => by rw [z, e2] at n3; cases n3
    cases h : H dd with
    | none => rfl
    | some o => rw [c2 _ _ hdx (s1 _ _ h)] at n3; cases n3
def fnRestR (K : PySem.W.Frag) (w : World) (E : XK) : TS := (tSeq (tIfS (tOr (tTest (tOp (rEqG K) (tVar 2) (tCB (rLenG K) (tCons (tVar 1) tNil)))) (tTest (tOp (rNeG K) (tIxG K w (tVar 1) (tVar 2)) (tC (.str "="))))) (tRaiseI (He.ga K "NoText") (spXInit2 K (He.ga K "NoText") "row" "word") E (tCons (tVar 0) (tCons (tVar 2) tNil))) tNext)
  (tRet (tTupN (tCons (tIxG K w (tVar 1) (tC (.int 0))) (tCons (tCB (rTupleG K) (tCons (tVar 3) tNil)) (tCons (tCallE (spReadPartX K) E (tCons (tVar 0) (tCons (tVar 1) (tCons (tOp (rAddG K) (tVar 2) (tC (.int 1))) tNil)))) tNil))))))
theorem fnRestR_ok {K : PySem.W.Frag} {w : World} {E : XK} {D : Ends} {H : Hp} {Q : VK} {wl nl : Addr} {ws : List Str} {row : Int} {ns : List Str} (ew : H wl = some (.lst (ws.map V.str))) (hf : ws.length ≤ 100000) (hsh : ShortW ws) (en : H nl = some (.lst (ns.map V.str)))
    (hns : marksM ws 4 1 = ns) (hle : 1 + ns.length ≤ ws.length) (hnm : isName ((ws[0]?).getD ("" : Str))) (q : ∀ f, fnR ws = .ok f → ∀ (v : V) H', Tp H' v f.data → Same H H' → Q v H') (qe : ∀ j : Nat, fnR ws = .bad j → RaisedW K row j E H) (hD : D.rt = Q) :
    fnRestR K w E D [some (.int row), some (.ref wl), some (.int ((1 + ns.length : Nat) : Int)), some (.ref nl)] H := by
  subst hD
  unfold fnRestR
  unfold fnR at q qe
  rw [if_pos hnm, hns] at q qe
  have ne : ∀ {H' : Hp} {Q' : VK} {E' : XK}, spReadPartX K [] H' Q' E' → True := fun _ => trivial
  walk_at "gg"
  by_cases he : 1 + ns.length = ws.length
  · have hno : ws[1 + ns.length]? = none := List.getElem?_eq_none (by omega)
    rw [if_neg (by rw [hno]; simp)] at qe
    refine g_T (decide_eq_true (by rw [List.length_map]; omega)) ?_
    walk_at "gg"
    exact g_raise2 fun d H' n e s => qe _ rfl d H' n e s
  refine g_F (decide_eq_false (by rw [List.length_map]; omega)) ?_
  obtain ⟨s, hs⟩ : ∃ s, ws[1 + ns.length]? = some s := ⟨_, List.getElem?_eq_getElem (by omega)⟩
  obtain ⟨s0, hs0⟩ : ∃ s0, ws[0]? = some s0 := ⟨_, List.getElem?_eq_getElem (by omega)⟩
  walk_at "gg"
  refine g_ixL (.of ew) (v := .str s) (atI_of (by omega) (by rw [Int.toNat_natCast, List.getElem?_map, hs]; rfl)) ?_
  walk_at "gg"
  by_cases heq : s = "="
  · rw [hs, heq, if_pos rfl] at q qe
    refine g_F (by rw [decide_eq_true heq]; rfl) ?_
    walk_at "gg"
    refine g_ixL (.of ew) (v := .str s0) (atI_of (by decide) (by rw [List.getElem?_map]; show Option.map _ ws[0]? = _; rw [hs0]; rfl)) ?_
    walk_at "gg"
    rename_i t5 H5 n5 e5 s5
    refine ⟨wl, ws, 1 + ns.length + 1, row, rfl, s5 _ _ ew, hf, hsh, by omega, fun p hp v H6 tv s6 => ?_, fun j hp => (qe j (by rw [hp])).mono s5⟩
    rw [hp] at q
    walk_at "gg"
    rename_i t7 H7 n7 e7 s7
    have s57 := s6.trans s7
    refine q _ rfl _ H7 ?_ (s5.trans s57)
    rw [hs0]
    exact .tup e7 (.cons (.str _) (.cons (.tup (s57 _ _ e5) (Tps.strs _)) (.one (tv.mono (Same.tk s7)))))
  · rw [if_neg (by rw [hs]; exact fun z => heq (Option.some.inj z))] at qe
    refine g_T (by rw [decide_eq_false heq]; rfl) ?_
    walk_at "gg"
    exact g_raise2 fun d H' n e s => qe _ rfl d H' n e s
def spReadFnX (K : PySem.W.Frag) : Sp := fun vs H Q E => ∃ (wl : Addr) (ws : List Str) (row : Int), vs = [.int row, .ref wl] ∧ H wl = some (.lst (ws.map V.str)) ∧ ws.length ≤ 100000 ∧ ShortW ws ∧ ws ≠ [] ∧
  (∀ f, fnR ws = .ok f → ∀ (v : V) H', Tp H' v f.data → Same H H' → Q v H') ∧ ∀ j : Nat, fnR ws = .bad j → RaisedW K row j E H
theorem pure_readfnX {K : PySem.W.Frag} {w : World} : PureOkX 2 (spReadFnX K) (tx_read_function K w spIsNameG (spXInit2 K (He.ga K "NoText") "row" "word") spIsMark (spReadPartX K)) 4 := by
  refine ⟨fun vs H Q E ⟨_, _, _, e, _⟩ => by rw [e]; rfl, ?_⟩
  rintro vs H Q E ⟨wl, ws, row, rfl, ew, hf, hsh, hne, q, qe⟩
  show tx_read_function K w _ _ _ _ E _ [some (.int row), some (.ref wl), none, none] H
  unfold tx_read_function
  obtain ⟨s0, r0, rfl⟩ : ∃ s r, ws = s :: r := by
    cases ws with
    | nil => exact absurd rfl hne
    | cons s r => exact ⟨s, r, rfl⟩
  walk_at "gg"
  refine ⟨s0, rfl, hsh s0 List.mem_cons_self, fun H1 s1 => ?_⟩
  by_cases hn : isName s0
  rotate_left
  · rw [decide_eq_false hn]
    walk_at "gg"
    refine g_raise2 fun d H' n e s => (qe 0 ?_).mono s1 d H' n e s
    unfold fnR
    exact if_neg hn
  rw [decide_eq_true hn]
  walk_at "gg"
  rename_i nl H2 nn e2 s2
  have s02 := s1.trans s2
  have hnw : wl ≠ nl := ne_of_none (s1 _ _ ew) nn
  have rest : ∀ (ns : List Str) (H3 : Hp) (D : Ends), D.rt = Q → H3 nl = some (.lst (ns.map V.str)) → Chg nl H2 H3 → marksM (s0 :: r0) 4 1 = ns → 1 + ns.length ≤ (s0 :: r0).length →
      fnRestR K w E D [some (.int row), some (.ref wl), some (.int ((1 + ns.length : Nat) : Int)), some (.ref nl)] H3 := by
    intro ns H3 D hD e3 c3 hm hl
    have s03 : Same H H3 := Same.chg s02 (s1.free nn) c3
    exact fnRestR_ok (Q := Q) (c3 _ _ hnw (s02 _ _ ew)) hf hsh e3 hm hl hn (fun f hf v H' tv s => q f hf v H' tv (s03.trans s)) (fun j hj => (qe j hj).mono s03) hD
  refine while_any (fun m σ H' => ∃ ns : List Str, m = 4 - ns.length ∧ ns.length ≤ 4 ∧ 1 + ns.length ≤ (s0 :: r0).length ∧ σ = [some (.int row), some (.ref wl), some (.int ((1 + ns.length : Nat) : Int)), some (.ref nl)] ∧ H' nl = some (.lst (ns.map V.str)) ∧ Chg nl H2 H' ∧
      marksM (s0 :: r0) 4 1 = ns ++ marksM (s0 :: r0) (4 - ns.length) (1 + ns.length)) 4
    ⟨[], rfl, by decide, by rw [List.length_cons]; show 1 ≤ _; omega, rfl, e2, .refl, rfl⟩ ?_
  generalize hws : s0 :: r0 = ws at *
  rintro m σ H3 ⟨ns, rfl, hn4, hl, rfl, e3, c3, hm⟩
  have ew3 := c3 _ _ hnw (s02 _ _ ew)
  walk_at "gg"
  by_cases he : 1 + ns.length = ws.length
  · refine g_F (decide_eq_false (by rw [List.length_map]; omega)) ?_
    refine rest ns H3 _ rfl e3 c3 ?_ hl
    rw [hm]
    have : marksM ws (4 - ns.length) (1 + ns.length) = [] := by
      cases h4 : 4 - ns.length with
      | zero => rfl
      | succ k =>
        unfold marksM
        rw [List.getElem?_eq_none (by omega)]
    rw [this, List.append_nil]
  refine g_T (decide_eq_true (by rw [List.length_map]; omega)) ?_
  obtain ⟨s, hs⟩ : ∃ s, ws[1 + ns.length]? = some s := ⟨_, List.getElem?_eq_getElem (by omega)⟩
  have hsl := hsh s (List.mem_of_getElem? hs)
  have hat : ∀ {H : Hp} {Q : VK}, H wl = some (.lst (ws.map V.str)) → Q (.str s) H → rIxG K w (.ref wl) (.int ((1 + ns.length : Nat) : Int)) H Q := fun h q =>
    g_ixL (.of h) (v := .str s) (atI_of (by omega) (by rw [Int.toNat_natCast, List.getElem?_map, hs]; rfl)) q
  walk_at "gg"
  refine hat ew3 ?_
  walk_at "gg"
  refine ⟨s, _, rfl, hsl, fun H4 s4 => ?_⟩
  have e4 := s4 _ _ e3
  have ew4 := s4 _ _ ew3
  have c4 : Chg nl H2 H4 := c3.trans (.same s4)
  cases hmk : isMark s "." with
  | false =>
    refine ⟨false, rfl, ?_⟩
    refine g_F rfl ?_
    refine g_F rfl ?_
    refine rest ns H4 _ rfl e4 c4 ?_ hl
    rw [hm]
    have : marksM ws (4 - ns.length) (1 + ns.length) = [] := by
      cases h4 : 4 - ns.length with
      | zero => rfl
      | succ k =>
        unfold marksM
        rw [hs]
        dsimp only
        rw [if_neg (by rw [hmk]; decide)]
    rw [this, List.append_nil]
  | true =>
    walk_at "gg"
    by_cases h4 : ns.length = 4
    · refine g_F (decide_eq_false (by rw [List.length_map]; omega)) ?_
      refine rest ns H4 _ rfl e4 c4 ?_ hl
      rw [hm, h4]
      show ns ++ [] = ns
      rw [List.append_nil]
    · refine g_T (decide_eq_true (by rw [List.length_map]; omega)) ?_
      refine g_turn ?_
      walk_at "gg"
      refine hat ew4 ?_
      walk_at "gg"
      refine g_slS hsl ?_
      rw [cut2]
      walk_at "gg"
      refine g_append e4 (by rw [List.length_map]; show _ < 16777216; omega) fun H5 e5 c5 => ?_
      walk_at "gg"
      obtain ⟨k, hk⟩ : ∃ k, 4 - ns.length = k + 1 := ⟨4 - ns.length - 1, by omega⟩
      refine ⟨4 - (ns.length + 1), by omega, ns ++ [tailS s], by rw [List.length_append]; rfl, by rw [List.length_append]; show ns.length + 1 ≤ 4; omega, by rw [List.length_append]; show 1 + (ns.length + 1) ≤ _; omega, ?_, ?_, c4.trans c5, ?_⟩
      · rw [show (((1 + ns.length : Nat) : Int) + 1) = ((1 + (ns ++ [tailS s]).length : Nat) : Int) from by rw [List.length_append, List.length_singleton]; omega]
      · rw [e5, List.map_append]
        rfl
      · rw [hm, hk, marksM, hs]
        dsimp only
        rw [if_pos hmk, List.length_append, List.length_singleton, show 4 - (ns.length + 1) = k from by omega, List.append_assoc]
        rfl

/-! ### texts of any kind read -/
theorem rows_len (t : Str) : (Txt.split t "\n").length ≤ t.length + 2 := PyProof.Rows.split_le t "\n"
theorem readL_drop {rs : List (List Str)} {i : Nat} {ws : List Str} {fs : List Fn1} {a : Option Part} (h : rs[i]? = some ws) : readL (rs.drop i) i fs a = (match a with
    | some _ => .bad i 0
    | none => if ws[0]? = some ("?" : Str) then (match partR ws 1 with
      | .bad j => .bad i j
      | .ok p => readL (rs.drop (i + 1)) (i + 1) fs (some p))
    else if fs.length = 8 then .bad i 0
    else match fnR ws with
      | .bad j => .bad i j
      | .ok f => readL (rs.drop (i + 1)) (i + 1) (fs ++ [f]) none) := by
  obtain ⟨h1, h2⟩ := List.getElem?_eq_some_iff.mp h
  rw [List.drop_eq_getElem_cons h1, h2]
  cases a with
  | some p => rfl
  | none =>
    rw [readL]
    all_goals
      dsimp only
      split
      · cases partR ws 1 <;> rfl
      · split
        · rfl
        · cases fnR ws <;> rfl
def spReadTX (K : PySem.W.Frag) : Sp := fun vs H Q E => ∃ (t : Str), vs = [.str t] ∧ t.length ≤ 90000 ∧ (∀ P, readM t = .ok P → lookM P = none → ∀ (v : V) H', Tp H' v P.data → Same H H' → Q v H') ∧
  (∀ P c x, readM t = .ok P → lookM P = some (c, x) → Raised K c x E H) ∧ ∀ (r j : Nat), readM t = .bad r j → RaisedW K r j E H
theorem pure_readTX {K : PySem.W.Frag} {w : World} : PureOkX 1 (spReadTX K) (tx_read K w (spXInit2 K (He.ga K "NoText") "row" "word") (spReadPartX K) (spReadFnX K) (spLookedX K)) 7 := by
  refine ⟨fun vs H Q E ⟨_, e, _⟩ => by rw [e]; rfl, ?_⟩
  rintro vs H Q E ⟨t, rfl, htl, q, qe, qw⟩
  show tx_read K w _ _ _ _ E _ [some (.str t), none, none, none, none, none, none] H
  unfold tx_read
  obtain ⟨hp1, hp2⟩ := split_pieces (x := t) (y := "\n") (by decide) (by decide +kernel)
  have hrl := rows_len t
  walk_at "gg"
  rename_i fl H1 n1 e1 s1
  refine ⟨_, _, rfl, rfl, by decide, by show t.length + 2 ≤ 16777216; omega, fun rl H2 n2 e2 s2 => ?_⟩
  walk_at "gg"
  refine g_enum ?_
  walk_at "gg"
  refine ⟨rl, _, rfl, .of e2, ?_⟩
  have e12 := s2 _ _ e1
  have hfr : rl ≠ fl := (ne_of_none e1 n2).symm
  have hrows : (rowsOf t).length = (Txt.split t "\n").length := by unfold rowsOf; rw [List.length_map]
  refine for_enumL (xs := (Txt.split t "\n").map V.str) (fun i σ H' => ∃ (x4 x5 x6 : Option V) (u : V) (us : List V) (fs : List Fn1) (a : Option Part), σ = [some (.str t), some (.ref fl), some u, some (.ref rl), x4, x5, x6] ∧ (a = none → u = .non) ∧ (∀ p, a = some p → Tp H' u p.data) ∧
    H' fl = some (.lst us) ∧ Tps H' us (fs.map Fn1.data) ∧ fs.length ≤ 8 ∧ readM t = readL ((rowsOf t).drop i) i fs a ∧ Chg fl H2 H') (fun i σ H' ⟨_, _, _, _, _, _, _, _, _, _, _, _, _, _, c⟩ => c _ _ hfr e2)
    ⟨none, none, none, .non, [], [], none, rfl, fun _ => rfl, fun p h => (by cases h), e12, .nil, by decide, rfl, .refl⟩ ?_ ?_
  · rintro i x σ H3 T H4 hx ⟨x4, x5, x6, u, us, fs, a, rfl, hu1, hu2, e3, tus, hf8, hrd, c3⟩ nT eT s4
    rw [List.getElem?_map] at hx
    obtain ⟨line, hline, rfl⟩ := Option.map_eq_some_iff.mp hx
    have hll := hp2 line (List.mem_of_getElem? hline)
    have hws : (rowsOf t)[i]? = some (Txt.split line " ") := by unfold rowsOf; rw [List.getElem?_map, hline]; rfl
    rw [readL_drop hws] at hrd
    obtain ⟨hw1, hw2⟩ := split_pieces (x := line) (y := " ") (by decide) (by decide +kernel)
    have hwl : (Txt.split line " ").length ≤ line.length + 2 := PyProof.Rows.split_le line " "
    have hul : us.length ≤ 8 := by rw [tus.length, List.length_map]; exact hf8
    refine g_un2 eT ?_
    dsimp only [List.set]
    walk_at "gg"
    refine ⟨_, _, rfl, rfl, by decide, by show _ + 2 ≤ 16777216; omega, fun wl H5 n5 e5 s5 => ?_⟩
    generalize Txt.split line " " = ws at hw1 hw2 hwl hrd e5 hws
    have hsh : ShortW ws := fun s hs => by have := hw2 s hs; omega
    have hwl' : ws.length ≤ 100000 := by omega
    have s35 := s4.trans s5
    have s05 : Same H H5 := Same.chg s1 n1 ((Chg.same s2).trans (c3.trans (.same s35)))
    walk_at "gg"
    cases a with
    | some p =>
      obtain ⟨ua, uxs, rfl, eu, _⟩ := (hu2 p rfl).part
      refine .inl ⟨rfl, ?_⟩
      walk_at "gg"
      exact g_raise2 fun d H' n e s => qw i 0 hrd d H' (s05.free n) e (s05.trans s)
    | none =>
    dsimp only at hrd
    rw [hu1 rfl]
    refine .inl ⟨rfl, ?_⟩
    obtain ⟨s0, r0, rfl⟩ : ∃ s r, ws = s :: r := by
      cases ws with
      | nil => exact absurd rfl hw1
      | cons s r => exact ⟨s, r, rfl⟩
    walk_at "gg"
    have e35 := s35 _ _ e3
    by_cases hq : s0 = "?"
    · rw [if_pos (by rw [hq]; rfl)] at hrd
      refine g_T (decide_eq_true hq) ?_
      walk_at "gg"
      refine ⟨wl, s0 :: r0, 1, i, rfl, e5, hwl', hsh, by rw [List.length_cons]; omega, fun p hp v H6 tv s6 => ?_, fun j hp => ?_⟩
      rotate_left
      · rw [hp] at hrd
        exact fun d H' n e s => qw i j hrd d H' (s05.free n) e (s05.trans s)
      rw [hp] at hrd
      walk_at "gg"
      exact ⟨_, _, _, v, us, fs, some p, rfl, fun h => (by cases h), fun p' h => (by cases h; exact tv), s6 _ _ e35, tus.mono (Same.tk (s35.trans s6)), hf8, hrd, c3.trans (.same (s35.trans s6))⟩
    · rw [if_neg (show ¬ (s0 :: r0)[0]? = some ("?" : Str) from fun z => hq (Option.some.inj z))] at hrd
      refine g_F (decide_eq_false hq) ?_
      walk_at "gg"
      by_cases h8 : fs.length = 8
      · rw [if_pos h8] at hrd
        refine g_T (decide_eq_true (by rw [tus.length, List.length_map]; omega)) ?_
        walk_at "gg"
        exact g_raise2 fun d H' n e s => qw i 0 hrd d H' (s05.free n) e (s05.trans s)
      · rw [if_neg h8] at hrd
        refine g_F (decide_eq_false (by rw [tus.length, List.length_map]; omega)) ?_
        walk_at "gg"
        refine ⟨wl, s0 :: r0, i, rfl, e5, hwl', hsh, hw1, fun f hf v H6 tv s6 => ?_, fun j hf => ?_⟩
        rotate_left
        · rw [hf] at hrd
          exact fun d H' n e s => qw i j hrd d H' (s05.free n) e (s05.trans s)
        rw [hf] at hrd
        have e36 := s6 _ _ e35
        walk_at "gg"
        refine g_append e36 (by show _ < 16777216; omega) fun H7 e7 c7 => ?_
        have k36 : Tk H3 H6 := Same.tk (s35.trans s6)
        refine ⟨_, _, _, .non, us ++ [v], fs ++ [f], none, rfl, fun _ => rfl, fun p h => (by cases h), e7, ?_, by rw [List.length_append, List.length_singleton]; omega, hrd, c3.trans ((Chg.same (s35.trans s6)).trans c7)⟩
        rw [List.map_append]
        exact ((tus.mono k36).mono (c7.tkl e36)).append (.one (tv.mono (c7.tkl e36)))
  · rintro σ H3 ⟨x4, x5, x6, u, us, fs, a, rfl, hu1, hu2, e3, tus, hf8, hrd, c3⟩
    rw [List.length_map, ← hrows, List.drop_length] at hrd
    have s03 : Same H H3 := Same.chg s1 n1 ((Chg.same s2).trans c3)
    have e23 := c3 _ _ hfr e2
    walk_at "gg"
    cases a with
    | none =>
      rw [hu1 rfl]
      refine .inl ⟨rfl, ?_⟩
      walk_at "gg"
      have hrd' : readM t = .bad (rowsOf t).length 0 := hrd
      rw [hrows] at hrd'
      refine g_raise2 fun d H' n e s => ?_
      have := qw _ 0 hrd' d H' (s03.free n) (by rw [e, List.length_map]; rfl) (s03.trans s)
      exact this
    | some p =>
      have tu := hu2 p rfl
      obtain ⟨ua, uxs, rfl, eu, _⟩ := tu.part
      refine .inl ⟨rfl, ?_⟩
      walk_at "gg"
      rename_i t4 H4 n4 e4 s4 t5 H5 n5 e5 s5
      have s35 := s4.trans s5
      have hP : readM t = .ok ⟨fs, p⟩ := hrd
      have hbd := readM_bd hP
      have tP : Tp H5 (.ref t5) (Prog.mk fs p).data := .tup e5 (.cons (.tup (s5 _ _ e4) (tus.mono (Same.tk s35))) (.one (tu.mono (Same.tk s35))))
      have s05 := s03.trans s35
      refine ⟨_, (Prog.mk fs p).data, rfl, tP.gq hbd.sh, fun hb => (by rw [builtM_true hbd] at hb; cases hb), fun _ => ⟨⟨fs, p⟩, rfl, hbd, fun hl H6 s6 => ?_, fun c x hl => (qe _ c x hP hl).mono s05⟩⟩
      exact q _ hP hl _ H6 (tP.mono (Same.tk s6)) (s05.trans s6)

/-! ### the law's own reading: words, and the first one that can't stand -/
theorem pure_lmarked {K : PySem.W.Frag} {w : World} : PureOk 2 spIsMark (t_law_marked K w spIsNameX) 2 := by
  refine ⟨fun vs H Q E ⟨_, _, e, _⟩ => by rw [e]; rfl, ?_⟩
  rintro vs H Q E ⟨s, m, rfl, hl, q⟩
  show t_law_marked K w _ _ [some (.str s), some (.str m)] H
  unfold t_law_marked
  walk_at "gg"
  refine g_slS (by show _ ≤ 16777216; exact hl) ?_
  rw [cut1]
  walk_at "gg"
  unfold isMark at q
  by_cases h : SX.S (s.cps.toList.take 1) = m
  · rw [decide_eq_true h]
    rw [decide_eq_true h, Bool.true_and] at q
    walk_at "gg"
    refine g_slS (by show _ ≤ 16777216; exact hl) ?_
    rw [cut2]
    walk_at "gg"
    exact ⟨_, .str _, rfl, .str _ (by show (SX.S _).length ≤ _; rw [SX.S_len, List.length_drop, lenTl]; omega), fun H' s' => q H' s'⟩
  · rw [decide_eq_false h]
    rw [decide_eq_false h, Bool.false_and] at q
    walk_at "gg"
    exact q H (.refl _)
def lfigsR (K : PySem.W.Frag) (w : World) : TS := (tSeq (tIfS (tOr (tTest (tOp rLtG (tCB (rLenG K) (tCons (tVar 1) tNil)) (tC (.int 1)))) (tOr (tTest (tOp rGtG (tCB (rLenG K) (tCons (tVar 1) tNil)) (tC (.int 60)))) (tTest (tOp (rNeG K) (tLc (iSeq K (tVar 1)) (gName 2) (tTest (tOp (rInG K w true) (tVar 2) (tC (.str "0123456789")))) (tVar 2) [2]) (tLstN tNil))))) (tRet (tC (.bl false))) tNext)
  (tRet (tOrT K (tOp (rEqG K) (tVar 0) (tC (.str "0"))) (tOp (rNeG K) (tIxG K w (tVar 1) (tC (.int 0))) (tC (.str "0"))))))
theorem lfigsR_ok {K : PySem.W.Frag} {w : World} {H : Hp} {Q : VK} {s : Str} {D : Ends} (hl : s.length ≤ 16777216) (q : ∀ H', Same H H' → Q (.bl (isFigs s)) H') (hD : D.rt = Q) : lfigsR K w D [some (.str s), some (.str (SX.S (figs s))), none] H := by
  subst hD
  unfold lfigsR
  have hfl : (figs s).length ≤ 16777216 := by
    unfold figs
    split
    · rw [List.length_drop, lenTl]; omega
    · rw [lenTl]; omega
  walk_at "gg"
  refine g_lenS (by rw [SX.S_len]; exact hfl) ?_
  rw [SX.S_len]
  walk_at "gg"
  unfold isFigs at q
  by_cases h1 : 1 ≤ (figs s).length
  rotate_left
  · refine g_T (decide_eq_true (by omega)) ?_
    walk_at "gg"
    rw [decide_eq_false h1, Bool.false_and, Bool.false_and] at q
    exact q H (.refl _)
  refine g_F (decide_eq_false (by omega)) ?_
  walk_at "gg"
  refine g_lenS (by rw [SX.S_len]; exact hfl) ?_
  rw [SX.S_len]
  rw [decide_eq_true h1, Bool.true_and] at q
  walk_at "gg"
  by_cases h2 : (figs s).length ≤ 60
  rotate_left
  · refine g_T (decide_eq_true (by omega)) ?_
    walk_at "gg"
    rw [decide_eq_false h2, Bool.false_and, Bool.false_and] at q
    exact q H (.refl _)
  refine g_F (decide_eq_false (by omega)) ?_
  rw [decide_eq_true h2, Bool.true_and] at q
  walk_at "gg"
  refine g_seqS ?_
  walk_at "gg"
  refine lc_sift (K := K) (figs s).length (fun i => match (figs s)[i]? with | some c => !digc c | none => false) (fun i H' hi _ => by show i < (SX.S (figs s)).cps.size; rw [← Array.length_toList]; exact hi) (fun H' _ => by show (SX.S (figs s)).cps.size ≤ _; rw [← Array.length_toList]; exact Nat.le_refl _) (by omega) ?_ ?_
  · rintro i x H1 H2 Na Nb hi s1 ⟨rfl, c', hc', rfl⟩ hA hB
    have hc2 : (figs s)[i]? = some c' := by rw [← Array.getElem?_toList] at hc'; exact hc'
    rw [hc2] at hA hB
    walk_at "gg"
    refine ⟨rfl, ?_⟩
    walk_at "gg"
    refine .inr (.inl ⟨_, figsText, rfl, rfl, ?_⟩)
    show ∃ k, V.bl (!(!(Builtin.Str.occurrences figsText ⟨#[c']⟩ 0 figsText.length 1).isEmpty)) = .bl k ∧ _
    rw [dig_in]
    refine ⟨_, rfl, ?_⟩
    refine g_ite (fun h => ?_) (fun h => ?_)
    · walk_at "gg"
      exact hA _ _ h (.refl _)
    · exact hB _ h (.refl _)
  · intro D1 ys H1 nD eD hys s1
    walk_at "gg"
    rename_i l2 H2 n2 e2 s2
    rw [range_all (figs s) digc _ (fun i c hc => by rw [hc]; simp)] at hys
    rw [hys]
    by_cases h3 : (figs s).all digc = true
    · rw [h3]
      rw [h3, Bool.true_and] at q
      walk_at "gg"
      by_cases h4 : s = "0"
      · rw [decide_eq_true h4]
        rw [decide_eq_true h4, Bool.true_or] at q
        walk_at "gg"
        exact q H2 (s1.trans s2)
      · rw [decide_eq_false h4]
        rw [decide_eq_false h4, Bool.false_or] at q
        walk_at "gg"
        obtain ⟨c, hc⟩ : ∃ c, (figs s)[0]? = some c := ⟨_, List.getElem?_eq_getElem (by omega)⟩
        refine g_ixS (by rw [SX.S_len]; exact hfl) (c := c) (atI_of (by decide) hc) ?_
        walk_at "gg"
        have e : decide ((⟨#[c]⟩ : Str) = "0") = decide ((figs s)[0]? = some 48) := by
          rw [hc]
          refine decide_eq_decide.mpr ⟨fun e => ?_, fun e => ?_⟩
          · have := congrArg (fun z : Str => z.cps.toList) e
            have h5 : [c] = [48] := this
            injection h5 with h5
            rw [h5]
          · cases e; rfl
        rw [e]
        exact q H2 (s1.trans s2)
    · rw [Bool.not_eq_true] at h3
      rw [h3]
      rw [h3, Bool.false_and] at q
      walk_at "gg"
      exact q H2 (s1.trans s2)
theorem pure_lfigures {K : PySem.W.Frag} {w : World} : PureOk 1 spIsFigs (t_law_figures K w) 3 := by
  refine ⟨fun vs H Q E ⟨_, e, _⟩ => by rw [e]; rfl, ?_⟩
  rintro vs H Q E ⟨s, rfl, hl, q⟩
  show t_law_figures K w _ [some (.str s), none, none] H
  unfold t_law_figures
  walk_at "gg"
  refine g_slS (by show _ ≤ 16777216; exact hl) ?_
  rw [cut1]
  walk_at "gg"
  by_cases h : SX.S (s.cps.toList.take 1) = "-"
  · refine g_T (decide_eq_true h) ?_
    walk_at "gg"
    refine g_slS (by show _ ≤ 16777216; exact hl) ?_
    rw [cut2]
    refine g_name rfl ?_
    have h2 : s.cps.toList.take 1 = [45] := by
      have := congrArg (fun z : Str => z.cps.toList) h
      exact this
    have e : s.cps.toList.drop 1 = figs s := by unfold figs; rw [if_pos h2]
    rw [e]
    exact lfigsR_ok hl q rfl
  · refine g_F (decide_eq_false h) ?_
    have h2 : ¬ s.cps.toList.take 1 = [45] := fun e => h (by rw [e]; decide)
    refine g_var rfl ?_
    refine g_name rfl ?_
    have e : s = SX.S (figs s) := by unfold figs; rw [if_neg h2, tlS]
    have := lfigsR_ok (K := K) (w := w) hl q (D := { nx := fun _ H' => Q .non H', rt := Q }) rfl
    rw [← e] at this
    exact this
/-! the stack of what is due -/
inductive Kw
  | part | mark | many
def Kw.word : Kw → Str
  | .part => "part"
  | .mark => "mark"
  | .many => "many"
def dueD (q : Kw × Nat) : PyData := .tuple [.str q.1.word, .int q.2]
def goodW (ws : List Str) (k : Kw) (d i m : Nat) : Bool := match ws[i]? with
  | none => false
  | some w => match k with
    | .mark => isMark w "."
    | .many => (cntW w).isSome
    | .part => okW w && (decide (d ≤ 12) && decide (m < 60))
def pushW (ws : List Str) (k : Kw) (d i : Nat) : List (Kw × Nat) := match ws[i]? with
  | none => []
  | some w => match k with
    | .mark => []
    | .many => match cntW w with
      | none => []
      | some n => (List.replicate n [(Kw.mark, d), (Kw.part, d)]).flatten ++ [(Kw.part, d)]
    | .part => match argsM w with
      | some n => List.replicate n (Kw.part, d + 1)
      | none => if w = "let" then [(Kw.many, d + 1)] else []
def Kw.cnt : Kw → Nat → Nat
  | .part, m => m + 1
  | _, m => m
inductive Run (ws : List Str) : List (Kw × Nat) → Nat → Nat → Nat ⊕ Nat → Prop
  | done {i m : Nat} : Run ws [] i m (.inr i)
  | bad {k : Kw} {d : Nat} {S : List (Kw × Nat)} {i m : Nat} : goodW ws k d i m = false → Run ws ((k, d) :: S) i m (.inl i)
  | step {k : Kw} {d : Nat} {S : List (Kw × Nat)} {i m : Nat} {r : Nat ⊕ Nat} : goodW ws k d i m = true → Run ws (pushW ws k d i ++ S) (i + 1) (k.cnt m) r → Run ws ((k, d) :: S) i m r
/-- what the stack comes to is what the reading comes to -/
theorem run_many {ws : List Str} {p : Nat → Nat → Rd Part} {d : Nat} (hp : ∀ {i l : Nat} {S : List (Kw × Nat)}, l ≤ 60 → i ≤ ws.length → (∀ j, p i l = .bad j → Run ws ((Kw.part, d) :: S) i (60 - l) (.inl j)) ∧ ∀ a i' l' r, p i l = .ok a i' l' → l' ≤ l ∧ i' ≤ ws.length ∧ (Run ws S i' (60 - l') r → Run ws ((Kw.part, d) :: S) i (60 - l) r)) :
    ∀ {n i l : Nat} {S : List (Kw × Nat)}, l ≤ 60 → i ≤ ws.length → (∀ j, manyM p n i l = .bad j → Run ws (List.replicate n (Kw.part, d) ++ S) i (60 - l) (.inl j)) ∧ ∀ as i' l' r, manyM p n i l = .ok as i' l' → Run ws S i' (60 - l') r → Run ws (List.replicate n (Kw.part, d) ++ S) i (60 - l) r
  | 0, i, l, S, _, _ => ⟨fun j h => (by cases h), fun as i' l' r h hr => (by cases h; exact hr)⟩
  | n + 1, i, l, S, hl, hi => by
    rw [List.replicate_succ, List.cons_append]
    constructor
    · intro j h
      unfold manyM at h
      cases h1 : p i l with
      | bad j1 =>
        rw [h1] at h
        cases h
        exact (hp hl hi).1 _ h1
      | ok a i1 l1 =>
        rw [h1] at h
        dsimp only at h
        cases h2 : manyM p n i1 l1 with
        | bad j2 =>
          rw [h2] at h
          cases h
          obtain ⟨k1, k2, k3⟩ := (hp (S := List.replicate n (Kw.part, d) ++ S) hl hi).2 a i1 l1 (.inl j) h1
          exact k3 ((run_many hp (S := S) (by omega) k2).1 _ h2)
        | ok as i2 l2 => rw [h2] at h; cases h
    · intro as i' l' r h hr
      unfold manyM at h
      cases h1 : p i l with
      | bad j1 => rw [h1] at h; cases h
      | ok a i1 l1 =>
        rw [h1] at h
        dsimp only at h
        cases h2 : manyM p n i1 l1 with
        | bad j2 => rw [h2] at h; cases h
        | ok as2 i2 l2 =>
          rw [h2] at h
          cases h
          obtain ⟨k1, k2, k3⟩ := (hp (S := List.replicate n (Kw.part, d) ++ S) hl hi).2 a i1 l1 r h1
          exact k3 ((run_many hp (S := S) (by omega) k2).2 _ _ _ r h2 hr)
theorem run_rows {ws : List Str} {p : Nat → Nat → Rd Part} {d : Nat} (hp : ∀ {i l : Nat} {S : List (Kw × Nat)}, l ≤ 60 → i ≤ ws.length → (∀ j, p i l = .bad j → Run ws ((Kw.part, d) :: S) i (60 - l) (.inl j)) ∧ ∀ a i' l' r, p i l = .ok a i' l' → l' ≤ l ∧ i' ≤ ws.length ∧ (Run ws S i' (60 - l') r → Run ws ((Kw.part, d) :: S) i (60 - l) r)) :
    ∀ {n i l : Nat} {S : List (Kw × Nat)}, l ≤ 60 → i ≤ ws.length → (∀ j, rowsR p ws n i l = .bad j → Run ws ((List.replicate n [(Kw.mark, d), (Kw.part, d)]).flatten ++ S) i (60 - l) (.inl j)) ∧
      ∀ rs i' l' r, rowsR p ws n i l = .ok rs i' l' → l' ≤ l ∧ i' ≤ ws.length ∧ (Run ws S i' (60 - l') r → Run ws ((List.replicate n [(Kw.mark, d), (Kw.part, d)]).flatten ++ S) i (60 - l) r)
  | 0, i, l, S, _, hi => ⟨fun j h => (by cases h), fun as i' l' r h => (by cases h; exact ⟨Nat.le_refl _, hi, fun hr => hr⟩)⟩
  | n + 1, i, l, S, hl, hi => by
    rw [List.replicate_succ, List.flatten_cons]
    show (∀ j, _ → Run ws ((Kw.mark, d) :: (Kw.part, d) :: ((List.replicate n [(Kw.mark, d), (Kw.part, d)]).flatten ++ S)) i (60 - l) (.inl j)) ∧ ∀ rs i' l' r, _ → l' ≤ l ∧ i' ≤ ws.length ∧ (_ → Run ws ((Kw.mark, d) :: (Kw.part, d) :: ((List.replicate n [(Kw.mark, d), (Kw.part, d)]).flatten ++ S)) i (60 - l) r)
    unfold rowsR
    cases h0 : ws[i]? with
    | none =>
      refine ⟨fun j h => ?_, fun rs i' l' r h => (by cases h)⟩
      cases h
      exact .bad (by unfold goodW; rw [h0])
    | some w =>
      dsimp only
      have hi1 := (List.getElem?_eq_some_iff.mp h0).1
      cases hm : isMark w "." with
      | false =>
        rw [if_neg (by decide)]
        refine ⟨fun j h => ?_, fun rs i' l' r h => (by cases h)⟩
        cases h
        exact .bad (by unfold goodW; rw [h0]; exact hm)
      | true =>
        rw [if_pos rfl]
        have st : ∀ {S' : List (Kw × Nat)} {r : Nat ⊕ Nat}, Run ws S' (i + 1) (60 - l) r → Run ws ((Kw.mark, d) :: S') i (60 - l) r := fun h => .step (by unfold goodW; rw [h0]; exact hm) (by unfold pushW; rw [h0]; exact h)
        cases h1 : p (i + 1) l with
        | bad j1 =>
          refine ⟨fun j h => ?_, fun rs i' l' r h => (by cases h)⟩
          cases h
          exact st ((hp hl hi1).1 _ h1)
        | ok a i1 l1 =>
          dsimp only
          cases h2 : rowsR p ws n i1 l1 with
          | bad j2 =>
            refine ⟨fun j h => ?_, fun rs i' l' r h => (by cases h)⟩
            cases h
            obtain ⟨k1, k2, k3⟩ := (hp (S := (List.replicate n [(Kw.mark, d), (Kw.part, d)]).flatten ++ S) hl hi1).2 a i1 l1 (.inl j2) h1
            exact st (k3 ((run_rows hp (S := S) (by omega) k2).1 _ h2))
          | ok r2 i2 l2 =>
            refine ⟨fun j h => (by cases h), fun rs i' l' r h => ?_⟩
            cases h
            obtain ⟨k1, k2, k3⟩ := (hp (S := (List.replicate n [(Kw.mark, d), (Kw.part, d)]).flatten ++ S) hl hi1).2 a i1 l1 r h1
            obtain ⟨g1, g2, g3⟩ := (run_rows hp (S := S) (by omega) k2).2 _ _ _ r h2
            exact ⟨by omega, g2, fun hr => st (k3 (g3 hr))⟩
theorem run_part {ws : List Str} : ∀ {f d i l : Nat} {S : List (Kw × Nat)}, d + f = 13 → l ≤ 60 → i ≤ ws.length → (∀ j, partM ws f i l = .bad j → Run ws ((Kw.part, d) :: S) i (60 - l) (.inl j)) ∧
    ∀ a i' l' r, partM ws f i l = .ok a i' l' → l' ≤ l ∧ i' ≤ ws.length ∧ (Run ws S i' (60 - l') r → Run ws ((Kw.part, d) :: S) i (60 - l) r)
  | 0, d, i, l, S, hdf, hl, hi => by
    refine ⟨fun j h => ?_, fun a i' l' r h => (by cases h)⟩
    cases h
    refine .bad ?_
    unfold goodW
    cases ws[i]? with
    | none => rfl
    | some w =>
      show (okW w && (decide (d ≤ 12) && _)) = false
      rw [decide_eq_false (by omega)]
      simp
  | f + 1, d, i, l, S, hdf, hl, hi => by
    have ih : ∀ {i l : Nat} {S : List (Kw × Nat)}, l ≤ 60 → i ≤ ws.length → _ := fun {i l S} hl hi => run_part (ws := ws) (f := f) (d := d + 1) (i := i) (l := l) (S := S) (by omega) hl hi
    unfold partM
    cases h0 : ws[i]? with
    | none =>
      refine ⟨fun j h => ?_, fun a i' l' r h => (by cases h)⟩
      cases h
      exact .bad (by unfold goodW; rw [h0])
    | some w =>
      dsimp only
      have hi1 := (List.getElem?_eq_some_iff.mp h0).1
      by_cases hk : l = 0 ∨ okW w = false
      · rw [if_pos hk]
        refine ⟨fun j h => ?_, fun a i' l' r h => (by cases h)⟩
        cases h
        refine .bad ?_
        unfold goodW
        rw [h0]
        show (okW w && (_ && decide (60 - l < 60))) = false
        rcases hk with hk | hk
        · rw [decide_eq_false (show ¬ 60 - l < 60 by omega)]; simp
        · rw [hk]; rfl
      · rw [if_neg hk]
        have hl0 : l ≠ 0 := fun z => hk (.inl z)
        have hok : okW w = true := by
          cases e : okW w with
          | true => rfl
          | false => exact absurd (.inr e) hk
        have hg : goodW ws .part d i (60 - l) = true := by
          unfold goodW
          rw [h0]
          show (okW w && (decide (d ≤ 12) && decide (60 - l < 60))) = true
          rw [hok, decide_eq_true (show d ≤ 12 by omega), decide_eq_true (show 60 - l < 60 by omega)]
          rfl
        have hm1 : 60 - l + 1 = 60 - (l - 1) := by omega
        have st : ∀ {r : Nat ⊕ Nat}, Run ws (pushW ws .part d i ++ S) (i + 1) (60 - (l - 1)) r → Run ws ((Kw.part, d) :: S) i (60 - l) r := fun h => .step hg (by show Run ws _ _ (60 - l + 1) _; rw [hm1]; exact h)
        cases ha : argsM w with
        | some n =>
          dsimp only
          have hpu : pushW ws .part d i = List.replicate n (Kw.part, d + 1) := by unfold pushW; rw [h0]; dsimp only; rw [ha]
          rw [hpu] at st
          obtain ⟨r1, r2⟩ := run_many (S := S) ih (n := n) (i := i + 1) (l := l - 1) (by omega) hi1
          cases h1 : manyM (partM ws f) n (i + 1) (l - 1) with
          | bad j1 =>
            refine ⟨fun j h => ?_, fun a i' l' r h => (by cases h)⟩
            cases h
            exact st (r1 _ h1)
          | ok ps i1 l1 =>
            refine ⟨fun j h => (by cases h), fun a i' l' r h => ?_⟩
            cases h
            obtain ⟨g1, g2, g3, g4, g5⟩ := many_good (fun h => part_good h) hi1 h1
            exact ⟨by omega, g5, fun hr => st (r2 _ _ _ r h1 hr)⟩
        | none =>
          dsimp only
          by_cases hlet : w = "let"
          · rw [if_pos hlet]
            have hpu : pushW ws .part d i = [(Kw.many, d + 1)] := by unfold pushW; rw [h0]; dsimp only; rw [ha]; exact if_pos hlet
            rw [hpu] at st
            unfold headM
            cases h2 : ws[i + 1]? with
            | none =>
              refine ⟨fun j h => ?_, fun a i' l' r h => (by cases h)⟩
              cases h
              exact st (.bad (by unfold goodW; rw [h2]))
            | some w2 =>
              dsimp only
              have hi2 := (List.getElem?_eq_some_iff.mp h2).1
              cases h3 : cntW w2 with
              | none =>
                refine ⟨fun j h => ?_, fun a i' l' r h => (by cases h)⟩
                cases h
                exact st (.bad (by unfold goodW; rw [h2]; show (cntW w2).isSome = false; rw [h3]; rfl))
              | some n =>
                dsimp only
                have hpu2 : pushW ws .many (d + 1) (i + 1) = (List.replicate n [(Kw.mark, d + 1), (Kw.part, d + 1)]).flatten ++ [(Kw.part, d + 1)] := by unfold pushW; rw [h2]; dsimp only; rw [h3]
                have st2 : ∀ {r : Nat ⊕ Nat}, Run ws ((List.replicate n [(Kw.mark, d + 1), (Kw.part, d + 1)]).flatten ++ ((Kw.part, d + 1) :: S)) (i + 1 + 1) (60 - (l - 1)) r → Run ws ((Kw.part, d) :: S) i (60 - l) r := fun h => by
                  refine st (.step (by unfold goodW; rw [h2]; show (cntW w2).isSome = true; rw [h3]; rfl) ?_)
                  rw [hpu2, List.append_assoc]
                  exact h
                obtain ⟨r1, r2⟩ := run_rows (S := (Kw.part, d + 1) :: S) ih (n := n) (i := i + 1 + 1) (l := l - 1) (by omega) hi2
                cases h4 : rowsR (partM ws f) ws n (i + 1 + 1) (l - 1) with
                | bad j1 =>
                  refine ⟨fun j h => ?_, fun a i' l' r h => (by cases h)⟩
                  cases h
                  exact st2 (r1 _ h4)
                | ok rs i1 l1 =>
                  dsimp only
                  cases h5 : partM ws f i1 l1 with
                  | bad j1 =>
                    refine ⟨fun j h => ?_, fun a i' l' r h => (by cases h)⟩
                    cases h
                    obtain ⟨g1, g2, g3⟩ := r2 _ _ _ (.inl j1) h4
                    exact st2 (g3 ((ih (S := S) (by omega) g2).1 _ h5))
                  | ok b i2 l2 =>
                    refine ⟨fun j h => (by cases h), fun a i' l' r h => ?_⟩
                    cases h
                    obtain ⟨g1, g2, g3⟩ := r2 _ _ _ r h4
                    obtain ⟨g4, g5, g6⟩ := (ih (S := S) (i := i1) (l := l1) (by omega) g2).2 b i2 l2 r h5
                    exact ⟨by omega, g5, fun hr => st2 (g3 (g6 hr))⟩
          · rw [if_neg hlet]
            have hpu : pushW ws .part d i = [] := by unfold pushW; rw [h0]; dsimp only; rw [ha]; exact if_neg hlet
            rw [hpu] at st
            refine ⟨fun j h => (by cases h), fun a i' l' r h => ?_⟩
            cases h
            exact ⟨by omega, hi1, fun hr => st hr⟩
/-- the first wrong word of a row's part -/
theorem run_row {ws : List Str} {i : Nat} (hi : i ≤ ws.length) : (∀ j, partR ws i = .bad j → (Run ws [(Kw.part, 1)] i 0 (.inl j) ∨ (Run ws [(Kw.part, 1)] i 0 (.inr j) ∧ j < ws.length))) ∧ ∀ p, partR ws i = .ok p → Run ws [(Kw.part, 1)] i 0 (.inr ws.length) := by
  obtain ⟨h1, h2⟩ := run_part (ws := ws) (f := 12) (d := 1) (i := i) (l := 60) (S := []) rfl (Nat.le_refl _) hi
  unfold partR
  cases h : partM ws 12 i 60 with
  | bad j1 =>
    refine ⟨fun j e => ?_, fun p e => (by cases e)⟩
    cases e
    exact .inl (h1 _ h)
  | ok p i1 l1 =>
    obtain ⟨g1, g2, g3⟩ := h2 p i1 l1 (.inr i1) h
    have hr := g3 .done
    dsimp only
    by_cases hlt : i1 < ws.length
    · rw [if_pos hlt]
      refine ⟨fun j e => ?_, fun p e => (by cases e)⟩
      cases e
      exact .inr ⟨hr, hlt⟩
    · rw [if_neg hlt]
      refine ⟨fun j e => (by cases e), fun p e => ?_⟩
      rw [show i1 = ws.length from by omega] at hr
      exact hr

/-! ### the law's own reading: the stack's walk -/
def wordAt (ws : List Str) (i : Nat) : Str := (ws[i]?).getD ("" : Str)
theorem good_mark {ws : List Str} {d i m : Nat} : goodW ws .mark d i m = isMark (wordAt ws i) "." := by
  unfold goodW wordAt
  cases ws[i]? with
  | none => show false = isMark "" "."; decide
  | some w => rfl
theorem good_many {ws : List Str} {d i m : Nat} : goodW ws .many d i m = (cntW (wordAt ws i)).isSome := by
  unfold goodW wordAt
  cases ws[i]? with
  | none => show false = (cntW "").isSome; decide
  | some w => rfl
theorem okW_empty : okW "" = false := by decide +kernel
theorem good_part {ws : List Str} {d i m : Nat} : goodW ws .part d i m = (okW (wordAt ws i) && (decide (d ≤ 12) && decide (m < 60))) := by
  unfold goodW wordAt
  cases ws[i]? with
  | none => show false = (okW "" && _); rw [okW_empty]; rfl
  | some w => rfl
theorem good_in {ws : List Str} {k : Kw} {d i m : Nat} (h : goodW ws k d i m = true) : i < ws.length ∧ ws[i]? = some (wordAt ws i) := by
  unfold goodW at h
  cases h0 : ws[i]? with
  | none => rw [h0] at h; cases h
  | some w =>
    unfold wordAt
    rw [h0]
    exact ⟨(List.getElem?_eq_some_iff.mp h0).1, rfl⟩
theorem word_short' {ws : List Str} {i : Nat} (h : ShortW ws) : (wordAt ws i).length ≤ 16777216 := by
  unfold wordAt
  cases h0 : ws[i]? with
  | none => show ("" : Str).length ≤ _; decide
  | some w => exact h w (List.mem_of_getElem? h0)
theorem Tps.rep' {H : Hp} {xs : List V} {ds : List PyData} (h : Tps H xs ds) : ∀ n, Tps H (List.replicate n xs).flatten (List.replicate n ds).flatten
  | 0 => .nil
  | n + 1 => by
    rw [List.replicate_succ, List.replicate_succ, List.flatten_cons, List.flatten_cons]
    exact h.append (Tps.rep' h n)
theorem rep_len' {α : Type} {xs : List α} : ∀ n, (List.replicate n xs).flatten.length = n * xs.length
  | 0 => by simp
  | n + 1 => by rw [List.replicate_succ, List.flatten_cons, List.length_append, rep_len' n, Nat.succ_mul]; omega
theorem due_many {n d : Nat} {S : List (Kw × Nat)} : (((List.replicate n [(Kw.mark, d), (Kw.part, d)]).flatten ++ [(Kw.part, d)] ++ S).reverse).map dueD = S.reverse.map dueD ++ [dueD (.part, d)] ++ (List.replicate n [dueD (.part, d), dueD (.mark, d)]).flatten := by
  rw [List.reverse_append, List.reverse_append, List.map_append, List.map_append, ← List.append_assoc]
  congr 1
  rw [List.reverse_flatten, List.map_replicate, List.reverse_replicate, List.map_flatten, List.map_replicate]
  rfl
theorem due_part {n d : Nat} {S : List (Kw × Nat)} : ((List.replicate n (Kw.part, d) ++ S).reverse).map dueD = S.reverse.map dueD ++ (List.replicate n [dueD (.part, d)]).flatten := by
  rw [List.reverse_append, List.map_append, List.reverse_replicate, List.map_replicate]
  congr 1
  induction n with
  | zero => rfl
  | succ n ih => rw [List.replicate_succ, List.replicate_succ, List.flatten_cons, ih]; rfl
def lgoodR (K : PySem.W.Frag) (w : World) : TS := (tSeq (tAsg (tOrT K (tCall spIsFigs [] E0 (tCons (tVar 7) tNil)) (tOrT K (tCall spIsMark [] E0 (tCons (tVar 7) (tCons (tC (.str ".")) tNil))) (tOrT K (tCall spIsMark [] E0 (tCons (tVar 7) (tCons (tC (.str ":")) tNil))) (tOp (rInG K w false) (tVar 7) (tVar 2))))) (gName 8))
  (tSeq (tAsg (tAndT K (tOrT K (tVar 8) (tOp (rEqG K) (tVar 7) (tC (.str "let")))) (tAndT K (tOp rLeG (tVar 6) (tC (.int 12))) (tOp rLtG (tVar 4) (tC (.int 60))))) (gName 8))
  (tAsg (tOp (rAddG K) (tVar 4) (tC (.int 1))) (gName 4))))
def lgoodR2 (K : PySem.W.Frag) : TS := (tSeq (tAsg (tAndT K (tOrT K (tVar 8) (tOp (rEqG K) (tVar 7) (tC (.str "let")))) (tAndT K (tOp rLeG (tVar 6) (tC (.int 12))) (tOp rLtG (tVar 4) (tC (.int 60))))) (gName 8))
  (tAsg (tOp (rAddG K) (tVar 4) (tC (.int 1))) (gName 4)))
theorem lgoodR2_ok {K : PySem.W.Frag} {H : Hp} {D : Ends} {x0 x1 x2 x3 x5 : Option V} {m d : Nat} {wd : Str} {b : Bool} (q : D.nx [x0, x1, x2, x3, some (.int ((m + 1 : Nat) : Int)), x5, some (.int d), some (.str wd), some (.bl ((b || decide (wd = "let")) && (decide (d ≤ 12) && decide (m < 60))))] H) :
    lgoodR2 K D [x0, x1, x2, x3, some (.int m), x5, some (.int d), some (.str wd), some (.bl b)] H := by
  unfold lgoodR2
  have hm1 : ((m : Int) + 1) = ((m + 1 : Nat) : Int) := by omega
  have e12 : decide ((d : Int) ≤ 12) = decide (d ≤ 12) := decide_eq_decide.mpr ⟨fun h => by omega, fun h => by omega⟩
  have e60 : decide ((m : Int) < 60) = decide (m < 60) := decide_eq_decide.mpr ⟨fun h => by omega, fun h => by omega⟩
  cases b with
  | true =>
    rw [Bool.true_or, Bool.true_and] at q
    walk_at "gg"
    rw [e12]
    by_cases hd : d ≤ 12
    · rw [decide_eq_true hd] at q ⊢
      rw [Bool.true_and] at q
      walk_at "gg"
      rw [e60, hm1]
      exact q
    · rw [decide_eq_false hd] at q ⊢
      rw [Bool.false_and] at q
      walk_at "gg"
      rw [hm1]
      exact q
  | false =>
    rw [Bool.false_or] at q
    walk_at "gg"
    by_cases hl : wd = "let"
    · rw [decide_eq_true hl] at q ⊢
      rw [Bool.true_and] at q
      walk_at "gg"
      rw [e12]
      by_cases hd : d ≤ 12
      · rw [decide_eq_true hd] at q ⊢
        rw [Bool.true_and] at q
        walk_at "gg"
        rw [e60, hm1]
        exact q
      · rw [decide_eq_false hd] at q ⊢
        rw [Bool.false_and] at q
        walk_at "gg"
        rw [hm1]
        exact q
    · rw [decide_eq_false hl] at q ⊢
      rw [Bool.false_and] at q
      walk_at "gg"
      rw [hm1]
      exact q
theorem okW_split {s : Str} : okW s = ((isFigs s || (isMark s "." || (isMark s ":" || (argsM s).isSome))) || decide (s = "let")) := by
  unfold okW
  cases isFigs s <;> cases isMark s "." <;> cases isMark s ":" <;> cases (argsM s).isSome <;> rfl
theorem lgoodR_ok {K : PySem.W.Frag} {w : World} {H : Hp} {D : Ends} {x0 x1 x3 x5 x8 : Option V} {dd : Addr} {m d : Nat} {wd : Str} (hl : wd.length ≤ 16777216) (ed : H dd = some (.dK counts9))
    (q : ∀ H', Same H H' → D.nx [x0, x1, some (.ref dd), x3, some (.int ((m + 1 : Nat) : Int)), x5, some (.int d), some (.str wd), some (.bl (okW wd && (decide (d ≤ 12) && decide (m < 60))))] H') :
    lgoodR K w D [x0, x1, some (.ref dd), x3, some (.int m), x5, some (.int d), some (.str wd), x8] H := by
  have fin : ∀ (b : Bool) H', Same H H' → b = (isFigs wd || (isMark wd "." || (isMark wd ":" || (argsM wd).isSome))) → lgoodR2 K D [x0, x1, some (.ref dd), x3, some (.int m), x5, some (.int d), some (.str wd), some (.bl b)] H' := by
    intro b H' s hb
    refine lgoodR2_ok ?_
    rw [hb, ← okW_split]
    exact q H' s
  unfold lgoodR
  refine g_seq ?_
  refine g_asg ?_
  refine g_orT ?_
  refine g_call (g_cons (g_var rfl (g_nil ?_)))
  refine ⟨wd, rfl, hl, fun H1 s1 => ?_⟩
  cases h1 : isFigs wd with
  | true =>
    refine ⟨true, rfl, g_T rfl (g_name rfl ?_)⟩
    exact fin true H1 s1 (by rw [h1]; rfl)
  | false =>
  refine ⟨false, rfl, g_F rfl ?_⟩
  refine g_orT (g_call (g_cons (g_var rfl (g_cons (g_c (g_nil ?_))))))
  refine ⟨wd, _, rfl, hl, fun H2 s2 => ?_⟩
  cases h2 : isMark wd "." with
  | true =>
    refine ⟨true, rfl, g_T rfl (g_name rfl ?_)⟩
    exact fin true H2 (s1.trans s2) (by rw [h1, h2]; rfl)
  | false =>
  refine ⟨false, rfl, g_F rfl ?_⟩
  refine g_orT (g_call (g_cons (g_var rfl (g_cons (g_c (g_nil ?_))))))
  refine ⟨wd, _, rfl, hl, fun H3 s3 => ?_⟩
  have s13 := s1.trans (s2.trans s3)
  cases h3 : isMark wd ":" with
  | true =>
    refine ⟨true, rfl, g_T rfl (g_name rfl ?_)⟩
    exact fin true H3 s13 (by rw [h1, h2, h3]; rfl)
  | false =>
  refine ⟨false, rfl, g_F rfl ?_⟩
  refine g_op (g_var rfl (g_var rfl ?_))
  refine g_inDK (s13 _ _ ed) ?_
  rw [counts_val, Option.isSome_map, (args_find wd).1]
  refine g_name rfl ?_
  exact fin _ H3 s13 (by rw [h1, h2, h3]; rfl)
/-- what a stack's end tells -/
def resV (ws : List Str) : Nat ⊕ Nat → V
  | .inl j => .int j
  | .inr j => if j = ws.length then .non else .int j
def spPartWrong : Sp := fun vs H Q _ => ∃ (wl : Addr) (ws : List Str) (i : Nat) (r : Nat ⊕ Nat), vs = [.ref wl, .int i] ∧ H wl = some (.lst (ws.map V.str)) ∧ ws.length ≤ 100000 ∧ ShortW ws ∧ i ≤ ws.length ∧ Run ws [(Kw.part, 1)] i 0 r ∧ ∀ H', Same H H' → Q (resV ws r) H'

/-! ### the law's own reading: the first word that can't stand -/
theorem argsM_let : argsM "let" = none := by decide +kernel
theorem pure_partwrong {K : PySem.W.Frag} {w : World} : PureOk 2 spPartWrong (t_law_part_wrong K w spIsMark spIsFigs) 9 := by
  refine ⟨fun vs H Q E ⟨_, _, _, _, e, _⟩ => by rw [e]; rfl, ?_⟩
  rintro vs H Q E ⟨wl, ws, i0, r, rfl, ew0, hf, hsh, hi0, hr0, q⟩
  show t_law_part_wrong K w _ _ _ [some (.ref wl), some (.int i0), none, none, none, none, none, none, none] H
  unfold t_law_part_wrong
  walk_at "gg"
  rename_i dd H0 n0 e0 s0
  refine g_pairs counts9 e0 rfl (by decide) ?_
  rw [counts_merge]
  walk_at "gg"
  rename_i H1 e1 c1 b2 H2 n2 e2 s2 l3 H3 n3 e3 s3
  have s01 : Same H H1 := Same.chg s0 n0 c1
  have s03 : Same H H3 := s01.trans (s2.trans s3)
  have ed3 := s3 _ _ (s2 _ _ e1)
  have ew3 := s03 _ _ ew0
  refine while_any (fun mm σ H' => ∃ (x5 x6 x7 x8 : Option V) (dl : Addr) (vs : List V) (S : List (Kw × Nat)) (i m : Nat), mm = ws.length + 1 - i ∧ σ = [some (.ref wl), some (.int i), some (.ref dd), some (.ref dl), some (.int m), x5, x6, x7, x8] ∧ i ≤ ws.length ∧ H' dl = some (.lst vs) ∧
      Tps H' vs (S.reverse.map dueD) ∧ Run ws S i m r ∧ H' dd = some (.dK counts9) ∧ H dl = none ∧ dl ≠ dd ∧ S.length ≤ 9 * i + 1 ∧ Same H H') (ws.length + 1 - i0)
    ⟨none, none, none, none, l3, [.ref b2], [(.part, 1)], i0, 0, rfl, rfl, hi0, e3, .one (.tup (s3 _ _ e2) (.cons (.str _) (.one (.int _)))), hr0, ed3, (s01.trans s2).free n3, (ne_of_none (s2 _ _ e1) n3).symm, by show 1 ≤ _; omega, s03⟩ ?_
  clear e0 n0 s0 e1 c1 e2 n2 s2 e3 n3 s3 s01 s03 ed3 ew3 hr0
  rintro mm σ H4 ⟨x5, x6, x7, x8, dl, vs, S, i, m, rfl, rfl, hi, edl, tvs, hr, edd, frl, ndl, hSl, s04⟩
  have ew4 := s04 _ _ ew0
  walk_at "gg"
  rename_i l5 H5 n5 e5 s5
  cases S with
  | nil =>
    have hv : vs = [] := by
      have := tvs.length
      exact List.length_eq_zero_iff.mp this
    subst hv
    refine g_F rfl ?_
    walk_at "gg"
    cases hr with
    | done =>
    by_cases he : i = ws.length
    · refine g_T (decide_eq_true (by rw [List.length_map]; omega)) ?_
      walk_at "gg"
      have := q H5 (s04.trans s5)
      rw [show resV ws (.inr i) = .non from if_pos he] at this
      exact this
    · refine g_F (decide_eq_false (by rw [List.length_map]; omega)) ?_
      walk_at "gg"
      have := q H5 (s04.trans s5)
      rw [show resV ws (.inr i) = .int i from if_neg he] at this
      exact this
  | cons kd S =>
  obtain ⟨k, d⟩ := kd
  rw [List.reverse_cons, List.map_append] at tvs
  obtain ⟨vs, x, rfl, tvs', tx⟩ := Tps.snoc_inv tvs
  obtain ⟨xa, x1, x2, rfl, exa, t1, t2⟩ := tx.two
  rw [t1.str_inv, t2.int_inv] at exa
  have hvl : vs.length = S.length := by rw [tvs'.length, List.length_map, List.length_reverse]
  rw [List.length_cons] at hSl
  refine g_T (by simp) ?_
  refine g_turn ?_
  have s05 := s04.trans s5
  have edl5 := s5 _ _ edl
  have exa5 := s5 _ _ exa
  have ew5 := s5 _ _ ew4
  have edd5 := s5 _ _ edd
  have tvs5 := tvs'.mono (Same.tk s5)
  clear e5 n5 tvs tx t1 t2 edl exa ew4 edd tvs' s04 s5
  walk_at "go"
  refine g_tyl (.of edl5) ?_
  refine g_pop edl5 fun H6 e6 c6 => ?_
  have k56 : Tk H5 H6 := c6.tkl edl5
  have s06 : Same H H6 := Same.chg s05 frl c6
  have tvs6 := tvs5.mono k56
  have ew6 := s06 _ _ ew0
  have edd6 := c6 _ _ ndl.symm edd5
  refine g_un2 (k56 _ _ exa5) ?_
  clear exa5 ew5 edd5 tvs5 edl5 k56 c6 s05
  walk_at "go"
  refine g_slL (.of ew6) fun l7 H7 n7 e7 s7 => ?_
  rw [cut_from i hi] at e7
  walk_at "go"
  intro l8 H8 n8 e8 s8
  walk_at "go"
  refine g_addL (s8 _ _ e7) e8 (by rw [List.length_map, List.length_drop]; show _ + 1 ≤ 16777216; omega) fun l9 H9 n9 e9 s9 => ?_
  have hwd : atI ((ws.drop i).map V.str ++ [V.str ""]) 0 = some (.str (wordAt ws i)) := by
    refine atI_of (by decide) ?_
    show ((ws.drop i).map V.str ++ [V.str ""])[0]? = _
    unfold wordAt
    cases h0 : ws[i]? with
    | none =>
      rw [List.drop_eq_nil_of_le (by have := List.getElem?_eq_none_iff.mp h0; omega)]
      rfl
    | some w0 =>
      obtain ⟨h1, h2⟩ := List.getElem?_eq_some_iff.mp h0
      rw [List.drop_eq_getElem_cons h1, h2]
      rfl
  refine g_ixL (.of e9) hwd ?_
  have s69 := s7.trans (s8.trans s9)
  have hwl := word_short' (i := i) hsh
  have e69 := s69 _ _ e6
  have edd9 := s69 _ _ edd6
  have tvs9 := tvs6.mono (Same.tk s69)
  have s09 := s06.trans s69
  clear e7 n7 s7 e8 n8 s8 e9 n9 s9 s69 hwd e6 edd6 tvs6 ew6 s06
  have bad : goodW ws k d i m = false → ∀ H', Same H H' → Q (.int i) H' := fun hb H' s => by
    cases hr with
    | bad _ => exact q H' s
    | step h _ => rw [hb] at h; cases h
  have ok : goodW ws k d i m = true → Run ws (pushW ws k d i ++ S) (i + 1) (k.cnt m) r := fun hb => by
    cases hr with
    | bad h => rw [hb] at h; cases h
    | step _ h => exact h
  clear hr
  cases k with
  | mark =>
    rw [good_mark] at bad ok
    dsimp only [Kw.word]
    have gm : isMark (wordAt ws i) "." = true → i < ws.length := fun h => (good_in (by rw [← good_mark (d := d) (m := m)] at h; exact h)).1
    walk_at "gg"
    refine ⟨_, _, rfl, hwl, fun H10 s10 => ?_⟩
    have e10 := s10 _ _ e69
    have s010 := s09.trans s10
    have ew10 := s010 _ _ ew0
    walk_at "gg"
    cases hm : isMark (wordAt ws i) "." with
    | false =>
      walk_at "gg"
      exact bad hm H10 s010
    | true =>
      have hlt := gm hm
      walk_at "gg"
      refine g_F (decide_eq_false (by rw [List.length_map]; omega)) ?_
      walk_at "gg"
      refine ⟨ws.length + 1 - (i + 1), by omega, _, _, _, _, dl, vs, S, i + 1, m, rfl, rfl, hlt, e10, tvs9.mono (Same.tk s10), ?_, s10 _ _ edd9, frl, ndl, by omega, s010⟩
      have := ok hm
      rwa [show pushW ws .mark d i = [] from by unfold pushW; cases ws[i]? <;> rfl, List.nil_append] at this
  | many =>
    rw [good_many] at bad ok
    dsimp only [Kw.word]
    have gm : (cntW (wordAt ws i)).isSome = true → i < ws.length ∧ ws[i]? = some (wordAt ws i) := fun h => good_in (k := .many) (d := d) (m := m) (by rw [good_many]; exact h)
    walk_at "gg"
    rename_i t10 H10 n10 e10 s10
    refine g_inX e10 rfl (cnt_in _) ?_
    have e1010 := s10 _ _ e69
    have s010 := s09.trans s10
    have ew10 := s010 _ _ ew0
    have edd10 := s10 _ _ edd9
    have tvs10 := tvs9.mono (Same.tk s10)
    clear e10 n10 e69 edd9 tvs9
    walk_at "gg"
    cases hc : cntW (wordAt ws i) with
    | none =>
      walk_at "gg"
      exact bad (by rw [hc]; rfl) H10 s010
    | some n =>
      rw [hc] at ok gm
      obtain ⟨hlt, hwi⟩ := gm rfl
      obtain ⟨hv, hv2, hn1, hn4⟩ := cnt_val hc
      have hru := ok rfl
      rw [show pushW ws .many d i = (List.replicate n [(Kw.mark, d), (Kw.part, d)]).flatten ++ [(Kw.part, d)] from by unfold pushW; rw [hwi]; dsimp only; rw [hc]] at hru
      walk_at "gg"
      refine g_F (decide_eq_false (by rw [List.length_map]; omega)) ?_
      walk_at "go"
      refine g_F (decide_eq_false (show ¬ ("many" : Str) = "part" by decide)) ?_
      walk_at "go"
      refine g_T (decide_eq_true rfl) ?_
      walk_at "go"
      intro b11 H11 n11 e11 s11
      walk_at "go"
      intro l12 H12 n12 e12 s12
      have s1012 := s11.trans s12
      refine g_addL (s1012 _ _ e1010) e12 (by show _ + 1 ≤ 16777216; omega) fun l13 H13 n13 e13 s13 => ?_
      walk_at "go"
      intro b14 H14 n14 e14 s14
      walk_at "go"
      intro b15 H15 n15 e15 s15
      walk_at "go"
      intro l16 H16 n16 e16 s16
      walk_at "go"
      refine g_intT hv hv2 ?_
      have s1316 := s14.trans (s15.trans s16)
      refine ⟨l16, (n : Int), _, rfl, rfl, e16, by omega, by omega, by rw [Int.toNat_natCast]; show 2 * n ≤ 16777216; omega, ?_⟩
      intro l17 H17 n17 e17 s17
      rw [Int.toNat_natCast] at e17
      have hrl : (List.replicate n [V.ref b14, V.ref b15]).flatten.length = n * 2 := rep_len' n
      refine g_addL (s17 _ _ (s1316 _ _ e13)) e17 (by rw [hrl, List.length_append]; show _ + 1 + _ ≤ 16777216; omega) fun l18 H18 n18 e18 s18 => ?_
      have s1118 : Same H11 H18 := s12.trans (s13.trans (s1316.trans (s17.trans s18)))
      have s1018 := s11.trans s1118
      have s018 := s010.trans s1018
      have s1518 := s16.trans (s17.trans s18)
      have s1318 := s1316.trans (s17.trans s18)
      walk_at "go"
      have fr18 : H l18 = none := (s010.trans (s1012.trans (s13.trans (s1316.trans s17)))).free n18
      refine ⟨ws.length + 1 - (i + 1), by omega, _, _, _, _, l18, _, (List.replicate n [(Kw.mark, d), (Kw.part, d)]).flatten ++ [(Kw.part, d)] ++ S, i + 1, m, rfl, rfl, hlt, e18, ?_, hru, s1018 _ _ edd10, fr18, fun z => ?_, ?_, s018⟩
      · rw [due_many]
        refine ((tvs10.mono (Same.tk s1018)).append (.one (.tup (s1118 _ _ e11) (.cons (.str _) (.one (.int _)))))).append (Tps.rep' (.cons (.tup (s15.trans s1518 _ _ e14) (.cons (.str _) (.one (.int _)))) (.one (.tup (s1518 _ _ e15) (.cons (.str _) (.one (.int _)))))) n)
      · have := s1018 _ _ edd10
        rw [← z, e18] at this
        cases this
      · rw [List.length_append, List.length_append, rep_len' n]
        show n * 2 + 1 + S.length ≤ _
        omega
  | part =>
    rw [good_part] at bad ok
    dsimp only [Kw.word]
    have gm : (okW (wordAt ws i) && (decide (d ≤ 12) && decide (m < 60))) = true → i < ws.length ∧ ws[i]? = some (wordAt ws i) := fun h => good_in (k := .part) (d := d) (m := m) (by rw [good_part]; exact h)
    walk_at "gg"
    rename_i t10 H10 n10 e10 s10
    refine g_inX e10 rfl (cnt_in _) ?_
    have e1010 := s10 _ _ e69
    have s010 := s09.trans s10
    have edd10 := s10 _ _ edd9
    have tvs10 := tvs9.mono (Same.tk s10)
    clear e10 n10 e69 edd9 tvs9
    refine g_name rfl ?_
    dsimp only
    refine g_seq ?_
    refine g_ifs ?_
    refine g_test ?_
    refine g_op ?_
    refine g_var rfl ?_
    refine g_c ?_
    refine g_eqS ?_
    refine g_bl ?_
    refine g_T (decide_eq_true rfl) ?_
    show lgoodR K w _ _ _
    refine lgoodR_ok hwl edd10 fun H11 s11 => ?_
    have s011 := s010.trans s11
    have ew11 := s011 _ _ ew0
    have edd11 := s11 _ _ edd10
    have tvs11 := tvs10.mono (Same.tk s11)
    have e11 := s11 _ _ e1010
    clear edd10 tvs10 e1010
    cases hg : (okW (wordAt ws i) && (decide (d ≤ 12) && decide (m < 60))) with
    | false =>
      walk_at "gg"
      exact bad hg H11 s011
    | true =>
      have hru := ok hg
      obtain ⟨hlt, hwi⟩ := gm hg
      walk_at "gg"
      refine g_F (decide_eq_false (by rw [List.length_map]; omega)) ?_
      walk_at "go"
      refine g_T (decide_eq_true rfl) ?_
      walk_at "go"
      intro b12 H12 n12 e12 s12
      walk_at "go"
      intro l13 H13 n13 e13 s13
      have s1113 := s12.trans s13
      have edd13 := s1113 _ _ edd11
      walk_at "go"
      refine g_isd edd13 ?_
      walk_at "go"
      refine ⟨valV counts9 (.inr (wordAt ws i)), .inl ⟨counts9, .inr (wordAt ws i), .of edd13, rfl, rfl⟩, ?_⟩
      have hcv : ∃ n : Nat, (valV counts9 (.inr (wordAt ws i))).getD (.int 0) = .int n ∧ n ≤ 3 ∧ pushW ws .part d i = (if wordAt ws i = "let" then [(Kw.many, d + 1)] else []) ++ List.replicate n (Kw.part, d + 1) := by
        rw [counts_val]
        unfold pushW
        rw [hwi]
        dsimp only
        obtain ⟨a1, a2⟩ := args_find (wordAt ws i)
        cases ha : argsM (wordAt ws i) with
        | some n =>
          obtain ⟨g1, g2, g3⟩ := a2 n ha
          refine ⟨n, by rw [g1]; rfl, g2, ?_⟩
          rw [if_neg (fun z => by rw [z, argsM_let] at ha; cases ha)]
          rfl
        | none =>
          rw [ha] at a1
          refine ⟨0, ?_, by omega, by rw [List.replicate_zero, List.append_nil]⟩
          cases hf : (PARTSkvs.find? fun q => decide (q.1 = wordAt ws i)) with
          | none => rfl
          | some q => rw [hf] at a1; cases a1
      obtain ⟨n, hn, hn3, hpu⟩ := hcv
      rw [hn]
      rw [hpu] at hru
      refine ⟨l13, (n : Int), _, rfl, rfl, e13, by omega, by omega, by rw [Int.toNat_natCast]; show 1 * n ≤ 16777216; omega, ?_⟩
      intro l14 H14 n14 e14 s14
      rw [Int.toNat_natCast] at e14
      have hrl : (List.replicate n [V.ref b12]).flatten.length = n * 1 := rep_len' n
      have s1114 := s1113.trans s14
      refine g_addL (s1114 _ _ e11) e14 (by rw [hrl]; show _ + _ ≤ 16777216; omega) fun l15 H15 n15 e15 s15 => ?_
      have s1215 : Same H12 H15 := s13.trans (s14.trans s15)
      have s1115 := s12.trans s1215
      have s015 := s011.trans s1115
      have fr15 : H l15 = none := (s011.trans s1114).free n15
      have ndl15 : l15 ≠ dd := fun z => by
        have := s1115 _ _ edd11
        rw [← z, e15] at this
        cases this
      have hd1 : ((d : Int) + 1) = ((d + 1 : Nat) : Int) := by omega
      have tv15 : Tps H15 (vs ++ (List.replicate n [V.ref b12]).flatten) ((List.replicate n (Kw.part, d + 1) ++ S).reverse.map dueD) := by
        rw [due_part]
        refine (tvs11.mono (Same.tk s1115)).append (Tps.rep' (.one (.tup (s1215 _ _ e12) (.cons (.str _) ?_))) n)
        rw [hd1]
        exact .one (.int _)
      walk_at "go"
      by_cases hlet : wordAt ws i = "let"
      · rw [if_pos hlet] at hru
        refine g_T (decide_eq_true hlet) ?_
        walk_at "go"
        refine g_tyl (.of e15) ?_
        walk_at "go"
        intro b16 H16 n16 e16 s16
        walk_at "go"
        refine g_append (s16 _ _ e15) (by rw [List.length_append, hrl]; show _ + _ < 16777216; omega) fun H17 e17 c17 => ?_
        have k1517 : Tk H15 H17 := (Same.tk s16).trans (c17.tkl (s16 _ _ e15))
        have s017 := Same.chg (s015.trans s16) fr15 c17
        walk_at "gg"
        refine ⟨ws.length + 1 - (i + 1), by omega, _, _, _, _, l15, _, (Kw.many, d + 1) :: (List.replicate n (Kw.part, d + 1) ++ S), i + 1, m + 1, rfl, rfl, hlt, e17, ?_, hru, c17 _ _ ndl15.symm (s16 _ _ (s1115 _ _ edd11)), fr15, ndl15, ?_, s017⟩
        · rw [List.reverse_cons, List.map_append]
          refine (tv15.mono k1517).append (.one (.tup (c17 _ _ (fun z => ?_) e16) (.cons (.str _) ?_)))
          · have := s16 _ _ e15
            rw [← z, e16] at this
            cases this
          · rw [hd1]
            exact .one (.int _)
        · rw [List.length_cons, List.length_append, List.length_replicate]
          omega
      · rw [if_neg hlet, List.nil_append] at hru
        refine g_F (decide_eq_false hlet) ?_
        walk_at "gg"
        refine ⟨ws.length + 1 - (i + 1), by omega, _, _, _, _, l15, _, List.replicate n (Kw.part, d + 1) ++ S, i + 1, m + 1, rfl, rfl, hlt, e15, tv15, hru, s1115 _ _ edd11, fr15, ndl15, ?_, s015⟩
        rw [List.length_append, List.length_replicate]
        omega

/-! ### the law's own reading: a row's first word that can't stand -/
def wrongV {α : Type} : Rx α → V
  | .bad j => .int (j : Nat)
  | .ok _ => .non
theorem run_wrong {ws : List Str} {i : Nat} (hi : i ≤ ws.length) : ∃ r, Run ws [(Kw.part, 1)] i 0 r ∧ resV ws r = wrongV (partR ws i) := by
  obtain ⟨h1, h2⟩ := run_row hi
  cases h : partR ws i with
  | bad j =>
    rcases h1 j h with h3 | ⟨h3, h4⟩
    · exact ⟨_, h3, rfl⟩
    · exact ⟨_, h3, if_neg (by omega)⟩
  | ok p => exact ⟨_, h2 p h, if_pos rfl⟩
def spRowWrong : Sp := fun vs H Q _ => ∃ (wl : Addr) (ws : List Str), vs = [.ref wl] ∧ H wl = some (.lst (ws.map V.str)) ∧ ws.length ≤ 100000 ∧ ShortW ws ∧ ws ≠ [] ∧ ∀ H', Same H H' → Q (wrongV (fnR ws)) H'
theorem pure_rowwrong {K : PySem.W.Frag} {w : World} : PureOk 1 spRowWrong (t_law_row_wrong K w spIsNameX spIsMark spPartWrong) 2 := by
  refine ⟨fun vs H Q E ⟨_, _, e, _⟩ => by rw [e]; rfl, ?_⟩
  rintro vs H Q E ⟨wl, ws, rfl, ew, hf, hsh, hne, q⟩
  show t_law_row_wrong K w _ _ _ _ [some (.ref wl), none] H
  unfold t_law_row_wrong
  obtain ⟨s0, hs0⟩ : ∃ s, ws[0]? = some s := by
    cases ws with
    | nil => exact absurd rfl hne
    | cons s r => exact ⟨s, rfl⟩
  have hlen : 1 ≤ ws.length := by
    cases ws with
    | nil => exact absurd rfl hne
    | cons s r => rw [List.length_cons]; omega
  have hat : ∀ {H : Hp} {Q : VK} {k : Nat} {s : Str}, ws[k]? = some s → H wl = some (.lst (ws.map V.str)) → Q (.str s) H → rIxG K w (.ref wl) (.int (k : Int)) H Q := fun hs h q =>
    g_ixL (.of h) (v := .str _) (atI_of (by omega) (by rw [Int.toNat_natCast, List.getElem?_map, hs]; rfl)) q
  have hnm : nameM (.str s0) = decide (isName s0) := by unfold nameM; rfl
  walk_at "go"
  refine hat (k := 0) hs0 ew ?_
  walk_at "go"
  refine ⟨.str s0, .str s0, rfl, .str s0 (hsh s0 (List.mem_of_getElem? hs0)), fun H1 s1 => ?_⟩
  rw [hnm]
  have ew1 := s1 _ _ ew
  by_cases hn : isName s0
  rotate_left
  · rw [decide_eq_false hn]
    walk_at "gg"
    have := q H1 s1
    unfold fnR at this
    rw [hs0, Option.getD_some, if_neg hn] at this
    exact this
  rw [decide_eq_true hn]
  walk_at "gg"
  have rest : ∀ (n : Nat) (H3 : Hp) (D : Ends), D.rt = Q → Same H H3 → (marksM ws 4 1).length = n → 1 + n ≤ ws.length →
      (tSeq (tIfS (tOr (tTest (tOp (rEqG K) (tVar 1) (tCB (rLenG K) (tCons (tVar 0) tNil)))) (tTest (tOp (rNeG K) (tIxG K w (tVar 0) (tVar 1)) (tC (.str "="))))) (tRet (tVar 1)) tNext)
  (tRet (tCall spPartWrong [] E0 (tCons (tVar 0) (tCons (tOp (rAddG K) (tVar 1) (tC (.int 1))) tNil))))) D [some (.ref wl), some (.int ((1 + n : Nat) : Int))] H3 := by
    intro n H3 D hD s3 hm hl
    subst hD
    have ew3 := s3 _ _ ew
    unfold fnR at q
    rw [hs0, Option.getD_some, if_pos hn, hm] at q
    walk_at "gg"
    by_cases he : 1 + n = ws.length
    · refine g_T (decide_eq_true (by rw [List.length_map]; omega)) ?_
      walk_at "gg"
      have := q H3 s3
      rw [if_neg (by rw [List.getElem?_eq_none (by omega)]; simp)] at this
      exact this
    refine g_F (decide_eq_false (by rw [List.length_map]; omega)) ?_
    walk_at "gg"
    obtain ⟨s, hs⟩ : ∃ s, ws[1 + n]? = some s := ⟨_, List.getElem?_eq_getElem (by omega)⟩
    refine hat hs ew3 ?_
    walk_at "gg"
    rw [hs] at q
    by_cases hse : s = "="
    rotate_left
    · refine g_T (by rw [decide_eq_false hse]; rfl) ?_
      walk_at "gg"
      have := q H3 s3
      rw [if_neg (fun z => hse (Option.some.inj z))] at this
      exact this
    refine g_F (by rw [decide_eq_true hse]; rfl) ?_
    rw [hse, if_pos rfl] at q
    walk_at "gg"
    obtain ⟨r, hr, hv⟩ := run_wrong (ws := ws) (i := 1 + n + 1) (by omega)
    refine ⟨wl, ws, 1 + n + 1, r, rfl, ew3, hf, hsh, by omega, hr, fun H4 s4 => ?_⟩
    rw [hv]
    have := q H4 (s3.trans s4)
    cases hp : partR ws (1 + n + 1) with
    | bad j => rw [hp] at this; exact this
    | ok p => rw [hp] at this; exact this
  refine while_any (fun m σ H' => ∃ n : Nat, m = 4 - n ∧ n ≤ 4 ∧ 1 + n ≤ ws.length ∧ σ = [some (.ref wl), some (.int ((1 + n : Nat) : Int))] ∧ Same H H' ∧
      (marksM ws 4 1).length = n + (marksM ws (4 - n) (1 + n)).length) 4
    ⟨0, rfl, by decide, hlen, rfl, s1, by rw [Nat.zero_add]⟩ ?_
  rintro m σ H3 ⟨n, rfl, hn4, hl, rfl, s3, hm⟩
  have ew3 := s3 _ _ ew
  walk_at "gg"
  by_cases he : 1 + n = ws.length
  · refine g_F (decide_eq_false (by rw [List.length_map]; omega)) ?_
    refine g_F rfl ?_
    refine rest n H3 _ rfl s3 ?_ hl
    rw [hm]
    have : marksM ws (4 - n) (1 + n) = [] := by
      cases h4 : 4 - n with
      | zero => rfl
      | succ k =>
        unfold marksM
        rw [List.getElem?_eq_none (by omega)]
    rw [this, List.length_nil, Nat.add_zero]
  refine g_T (decide_eq_true (by rw [List.length_map]; omega)) ?_
  obtain ⟨s, hs⟩ : ∃ s, ws[1 + n]? = some s := ⟨_, List.getElem?_eq_getElem (by omega)⟩
  have hsl := hsh s (List.mem_of_getElem? hs)
  walk_at "gg"
  by_cases h4 : n = 4
  · refine g_F (decide_eq_false (by omega)) ?_
    refine g_F rfl ?_
    refine rest n H3 _ rfl s3 ?_ hl
    rw [hm, h4]
    rfl
  refine g_T (decide_eq_true (by omega)) ?_
  walk_at "gg"
  refine hat hs ew3 ?_
  walk_at "gg"
  refine ⟨s, _, rfl, hsl, fun H4 s4 => ?_⟩
  have s34 := s3.trans s4
  obtain ⟨k, hk⟩ : ∃ k, 4 - n = k + 1 := ⟨4 - n - 1, by omega⟩
  cases hmk : isMark s "." with
  | false =>
    refine ⟨false, rfl, ?_⟩
    refine g_F rfl ?_
    refine rest n H4 _ rfl s34 ?_ hl
    rw [hm, hk]
    have : marksM ws (k + 1) (1 + n) = [] := by
      unfold marksM
      rw [hs]
      dsimp only
      rw [if_neg (by rw [hmk]; decide)]
    rw [this, List.length_nil, Nat.add_zero]
  | true =>
    refine ⟨true, rfl, ?_⟩
    refine g_T rfl ?_
    refine g_turn ?_
    walk_at "gg"
    refine ⟨4 - (n + 1), by omega, n + 1, rfl, by omega, by omega, ?_, s34, ?_⟩
    · rw [show (((1 + n : Nat) : Int) + 1) = ((1 + (n + 1) : Nat) : Int) from by omega]
    · rw [hm, hk, marksM, hs]
      dsimp only
      rw [if_pos hmk, List.length_cons, show 4 - (n + 1) = k from by omega, show 1 + n + 1 = 1 + (n + 1) from by omega]
      omega

/-! ### the law's own reading: a part built of its words -/
theorem figs_first {w : Str} (h : isFigs w = true) : ∃ c, w.cps.toList[0]? = some c ∧ (c = 45 ∨ (48 ≤ c ∧ c ≤ 57)) := by
  unfold isFigs at h
  rw [Bool.and_eq_true, Bool.and_eq_true, Bool.and_eq_true, decide_eq_true_iff, decide_eq_true_iff, List.all_eq_true] at h
  obtain ⟨⟨g1, g2, g3⟩, _⟩ := h
  cases hq : w.cps.toList with
  | nil => unfold figs at g1; rw [hq] at g1; simp at g1
  | cons c cs =>
    refine ⟨c, rfl, ?_⟩
    by_cases h45 : c = 45
    · exact .inl h45
    · have hf : figs w = c :: cs := by
        unfold figs
        rw [hq]
        exact if_neg (fun h => by injection h with h1; exact h45 h1)
      rw [hf] at g3
      have := g3 _ List.mem_cons_self
      unfold digc at this
      rw [Bool.and_eq_true, decide_eq_true_iff, decide_eq_true_iff] at this
      exact .inr this
theorem mark_first {w m : Str} {k : Nat} (hm : m = SX.S [k]) (h : isMark w m = true) : w.cps.toList[0]? = some k := by
  obtain ⟨h1, _⟩ := isMark_iff.mp h
  unfold headS at h1
  rw [hm] at h1
  have h2 := congrArg (fun z : Str => z.cps.toList) h1
  have h3 : w.cps.toList.take 1 = [k] := by simpa [SX.S] using h2
  cases hq : w.cps.toList with
  | nil => rw [hq] at h3; cases h3
  | cons c cs => rw [hq] at h3; cases h3; rfl
theorem figs_leaf {w : Str} (h : isFigs w = true) : argsM w = none ∧ w ≠ "let" ∧ leafW w = .num (valW w) := by
  obtain ⟨c, hc, hr⟩ := figs_first h
  have no : ∀ {m : Str} {k : Nat}, m = SX.S [k] → k ≠ 45 → ¬ (48 ≤ k ∧ k ≤ 57) → isMark w m = false := fun hm h1 h2 => by
    cases e : isMark w _ with
    | false => rfl
    | true =>
      have := mark_first hm e
      rw [hc] at this
      cases this
      rcases hr with hr | hr
      · exact absurd hr h1
      · exact absurd hr h2
  refine ⟨?_, ?_, ?_⟩
  · cases ha : argsM w with
    | none => rfl
    | some n =>
      exfalso
      rcases argsM_word ha with ⟨_, hw⟩ | ⟨_, hw⟩ | ⟨_, hw⟩
      · rcases hw with rfl | rfl <;> exact absurd h (by decide +kernel)
      · rcases hw with rfl | rfl | rfl | rfl | rfl | rfl <;> exact absurd h (by decide +kernel)
      · subst hw; exact absurd h (by decide +kernel)
  · rintro rfl
    exact absurd h (by decide +kernel)
  · unfold leafW
    rw [no (m := ".") (k := 46) rfl (by decide) (by decide), no (m := ":") (k := 58) rfl (by decide) (by decide), if_neg (by decide), if_neg (by decide)]
def marks2 : Str := ".:"
theorem mark_in (c : Nat) : (!(Builtin.Str.occurrences marks2 ⟨#[c]⟩ 0 marks2.length 1).isEmpty) = (decide (c = 46) || decide (c = 58)) := by
  rw [PySem.StrLaws.found_one]
  have key : ∀ l : List Nat, l = [46, 58] → decide (c ∈ l) = (decide (c = 46) || decide (c = 58)) := by
    intro l hl
    subst hl
    rw [← Bool.decide_or]
    exact decide_eq_decide.mpr (by simp)
  exact key _ (by decide)
/-- a word that can stand and is no figures -/
theorem built_first {w : Str} (hok : okW w = true) (hf : isFigs w = false) : ∃ c, w.cps.toList[0]? = some c ∧ ((isMark w "." = true ∧ c = 46 ∧ argsM w = none ∧ w ≠ "let") ∨ (isMark w "." = false ∧ isMark w ":" = true ∧ c = 58 ∧ argsM w = none ∧ w ≠ "let") ∨ (c ≠ 46 ∧ c ≠ 58 ∧ ((argsM w).isSome = true ∧ w ≠ "let" ∨ argsM w = none ∧ w = "let"))) := by
  have hw : (argsM w).isSome = true ∨ w = "let" → ∃ c, w.cps.toList[0]? = some c ∧ c ≠ 46 ∧ c ≠ 58 ∧ ((argsM w).isSome = true ∧ w ≠ "let" ∨ argsM w = none ∧ w = "let") := by
    rintro (h | rfl)
    · obtain ⟨n, ha⟩ := Option.isSome_iff_exists.mp h
      rcases argsM_word ha with ⟨_, hw⟩ | ⟨_, hw⟩ | ⟨_, hw⟩
      · rcases hw with rfl | rfl <;> exact ⟨_, rfl, by decide, by decide, .inl ⟨h, by decide⟩⟩
      · rcases hw with rfl | rfl | rfl | rfl | rfl | rfl <;> exact ⟨_, rfl, by decide, by decide, .inl ⟨h, by decide⟩⟩
      · subst hw; exact ⟨_, rfl, by decide, by decide, .inl ⟨h, by decide⟩⟩
    · exact ⟨_, rfl, by decide, by decide, .inr ⟨argsM_let, rfl⟩⟩
  by_cases ha : (argsM w).isSome = true ∨ w = "let"
  · obtain ⟨c, h1, h2, h3, h4⟩ := hw ha
    exact ⟨c, h1, .inr (.inr ⟨h2, h3, h4⟩)⟩
  · have ha1 : argsM w = none := by
      cases e : argsM w with
      | none => rfl
      | some n => exact absurd (.inl (by rw [e]; rfl)) ha
    have hl : w ≠ "let" := fun z => ha (.inr z)
    cases h1 : isMark w "." with
    | true => exact ⟨46, mark_first rfl h1, .inl ⟨rfl, rfl, ha1, hl⟩⟩
    | false =>
      have h2 : isMark w ":" = true := by
        unfold okW at hok
        rw [ha1, decide_eq_false hl, h1, hf] at hok
        simpa using hok
      exact ⟨58, mark_first rfl h2, .inr (.inl ⟨rfl, h2, rfl, ha1, hl⟩)⟩
def three3 : List (Key × V) := [(.inr "when", .int 3), (.inr "left", .int 1), (.inr "right", .int 1)]
theorem three_merge : mergeK [] three3 = three3 := by decide +kernel
theorem three_val {w : Str} {n : Nat} (h : argsM w = some n) : (valV three3 (.inr w)).getD (.int 2) = .int (n : Int) ∧ 1 ≤ n ∧ n ≤ 3 := by
  rcases argsM_word h with ⟨hn, hw⟩ | ⟨hn, hw⟩ | ⟨hn, hw⟩
  · subst hn; rcases hw with rfl | rfl <;> exact ⟨rfl, by decide, by decide⟩
  · subst hn; rcases hw with rfl | rfl | rfl | rfl | rfl | rfl <;> exact ⟨rfl, by decide, by decide⟩
  · subst hn; subst hw; exact ⟨rfl, by decide, by decide⟩
def spBuilt (m : Nat) : Sp := fun vs H Q _ => ∃ (wl cl : Addr) (ws : List Str) (f i l : Nat) (p : Part) (i' l' : Nat), vs = [.ref wl, .ref cl] ∧ H wl = some (.lst (ws.map V.str)) ∧ H cl = some (.lst [.int i]) ∧ ws.length ≤ 100000 ∧ ShortW ws ∧ partM ws f i l = .ok p i' l' ∧ f < m ∧
  ∀ (v : V) H', Tp H' v p.data → H' cl = some (.lst [.int i']) → Chg cl H H' → Q v H'
theorem pure_built {K : PySem.W.Frag} {w : World} {m : Nat} : PureOk 2 (spBuilt (m + 1)) (t_law_built K w spIsFigs (spBuilt m)) 6 := by
  refine ⟨fun vs H Q E ⟨_, _, _, _, _, _, _, _, _, e, _⟩ => by rw [e]; rfl, ?_⟩
  rintro vs H Q E ⟨wl, cl, ws, f, i, l, p, i', l', rfl, ew, ec, hf, hsh, hp, hfm, q⟩
  show t_law_built K w _ _ _ [some (.ref wl), some (.ref cl), none, none, none, none] H
  unfold t_law_built
  obtain ⟨f, rfl⟩ : ∃ f', f = f' + 1 := by
    cases f with
    | zero => cases hp
    | succ f => exact ⟨f, rfl⟩
  obtain ⟨s, hs⟩ : ∃ s, ws[i]? = some s := by
    unfold partM at hp
    cases h : ws[i]? with
    | none => rw [h] at hp; cases hp
    | some s => exact ⟨s, rfl⟩
  have hsl := hsh s (List.mem_of_getElem? hs)
  have hi := (List.getElem?_eq_some_iff.mp hs).1
  have hwc : wl ≠ cl := by
    rintro rfl
    rw [ew] at ec
    cases ws with
    | nil => cases hs
    | cons a b => cases ec
  unfold partM at hp
  rw [hs] at hp
  dsimp only at hp
  by_cases hk : l = 0 ∨ okW s = false
  · rw [if_pos hk] at hp; cases hp
  rw [if_neg hk] at hp
  have hok : okW s = true := by
    cases e : okW s with
    | true => rfl
    | false => exact absurd (.inr e) hk
  have hat : ∀ {H : Hp} {Q : VK} {k : Nat} {s : Str}, ws[k]? = some s → H wl = some (.lst (ws.map V.str)) → Q (.str s) H → rIxG K w (.ref wl) (.int (k : Int)) H Q := fun hs h q =>
    g_ixL (.of h) (v := .str _) (atI_of (by omega) (by rw [Int.toNat_natCast, List.getElem?_map, hs]; rfl)) q
  walk_at "go"
  refine hat hs ew ?_
  walk_at "go"
  refine g_setL (k := 0) ec rfl fun H1 e1 c1 => ?_
  rw [show ((i : Int) + 1) = ((i + 1 : Nat) : Int) from by omega] at e1
  have e1' : H1 cl = some (.lst [.int ((i + 1 : Nat) : Int)]) := e1
  have ew1 := c1 _ _ hwc ew
  clear e1
  walk_at "go"
  refine ⟨s, rfl, hsl, fun H2 s2 => ?_⟩
  have e2 := s2 _ _ e1'
  have ew2 := s2 _ _ ew1
  have c2 : Chg cl H H2 := c1.trans (.same s2)
  clear e1' ew1 c1 s2
  cases hfg : isFigs s with
  | true =>
    obtain ⟨ha, hlt, hlf⟩ := figs_leaf hfg
    obtain ⟨hv1, hv2, hv3⟩ := figs_val hfg
    rw [ha] at hp
    dsimp only at hp
    rw [if_neg hlt] at hp
    cases hp
    walk_at "gg"
    refine g_intT hv2 (by omega) ?_
    walk_at "gg"
    rename_i t3 H3 n3 e3 s3
    refine q _ H3 ?_ (s3 _ _ e2) (c2.trans (.same s3))
    rw [hlf]
    exact .tup e3 (.cons (.str _) (.one (.int _)))
  | false =>
  obtain ⟨c, hc0, hcase⟩ := built_first hok hfg
  walk_at "gg"
  refine g_ixS hsl (c := c) (atI_of (by decide) hc0) ?_
  walk_at "gg"
  refine .inr (.inl ⟨_, marks2, rfl, rfl, ?_⟩)
  show ∃ k, V.bl (!(Builtin.Str.occurrences marks2 ⟨#[c]⟩ 0 marks2.length 1).isEmpty) = .bl k ∧ _
  rw [mark_in]
  refine ⟨_, rfl, ?_⟩
  have hch : decide ((⟨#[c]⟩ : Str) = ":") = decide (c = 58) := decide_eq_decide.mpr ⟨fun e => by
    have := congrArg (fun z : Str => z.cps.toList) e
    have h5 : [c] = [58] := this
    injection h5, fun e => by rw [e]; rfl⟩
  rcases hcase with ⟨hm1, hc, ha, hlt⟩ | ⟨hm1, hm2, hc, ha, hlt⟩ | ⟨hc1, hc2, hword⟩
  · rw [decide_eq_true hc, Bool.true_or]
    rw [decide_eq_false (show ¬ c = 58 by omega)] at hch
    rw [ha] at hp
    dsimp only at hp
    rw [if_neg hlt] at hp
    cases hp
    walk_at "gg"
    refine g_ixS hsl (c := c) (atI_of (by decide) hc0) ?_
    walk_at "gg"
    rename_i t3 H3 n3 e3 s3
    rw [hch]
    refine g_ixL (.of e3) (v := .str "name") rfl ?_
    walk_at "gg"
    refine g_slS hsl ?_
    rw [cut2]
    walk_at "gg"
    rename_i t4 H4 n4 e4 s4
    have s34 := s3.trans s4
    refine q _ H4 ?_ (s34 _ _ e2) (c2.trans (.same s34))
    unfold leafW
    rw [hm1, if_pos rfl]
    exact .tup e4 (.cons (.str _) (.one (.str _)))
  · rw [decide_eq_true hc, Bool.or_true]
    rw [decide_eq_true hc] at hch
    rw [ha] at hp
    dsimp only at hp
    rw [if_neg hlt] at hp
    cases hp
    walk_at "gg"
    refine g_ixS hsl (c := c) (atI_of (by decide) hc0) ?_
    walk_at "gg"
    rename_i t3 H3 n3 e3 s3
    rw [hch]
    refine g_ixL (.of e3) (v := .str "fun") rfl ?_
    walk_at "gg"
    refine g_slS hsl ?_
    rw [cut2]
    walk_at "gg"
    rename_i t4 H4 n4 e4 s4
    have s34 := s3.trans s4
    refine q _ H4 ?_ (s34 _ _ e2) (c2.trans (.same s34))
    unfold leafW
    rw [hm1, hm2, if_neg (by decide), if_pos rfl]
    exact .tup e4 (.cons (.str _) (.one (.str _)))
  · rw [decide_eq_false hc1, decide_eq_false hc2, Bool.false_or]
    walk_at "gg"
    rcases hword with ⟨hsome, hlt⟩ | ⟨ha, hlt⟩
    · obtain ⟨n, ha⟩ := Option.isSome_iff_exists.mp hsome
      obtain ⟨hv, hn1, hn3⟩ := three_val ha
      rw [ha] at hp
      dsimp only at hp
      cases hmm : manyM (partM ws f) n (i + 1) (l - 1) with
      | bad j => rw [hmm] at hp; cases hp
      | ok ps0 i0 l0 =>
      rw [hmm] at hp
      cases hp
      refine g_T (by rw [decide_eq_false hlt]; rfl) ?_
      walk_at "go"
      intro dd H3 n3 e3 s3
      walk_at "go"
      refine g_pairs three3 e3 rfl (by decide) ?_
      rw [three_merge]
      intro H4 e4 c4
      refine g_isd e4 ?_
      walk_at "go"
      refine g_dget (k := .inr s) e4 rfl ?_
      rw [hv]
      have s4 := Same.chg s3 n3 c4
      have e24 := s4 _ _ e2
      have ew4 := s4 _ _ ew2
      have c24 := c2.trans (Chg.same s4)
      walk_at "go"
      intro t5 H5 n5 e5 s5
      walk_at "gg"
      refine g_isrng (by omega) (by omega) ?_
      rw [Int.toNat_natCast]
      have e25 := s5 _ _ e24
      have ew5 := s5 _ _ ew4
      have c25 := c24.trans (Chg.same s5)
      intro D hD
      have hDc : D ≠ cl := (ne_of_none e25 hD).symm
      have hDw : D ≠ wl := (ne_of_none ew5 hD).symm
      have hD5 : D ≠ t5 := (ne_of_none e5 hD).symm
      have h5c : t5 ≠ cl := (ne_of_none e24 n5).symm
      have hfrH : H D = none := by
        cases h : H D with
        | none => rfl
        | some o => rw [c25 _ _ hDc h] at hD; cases hD
      refine lc_any n (fun j acc H' => ∃ (ps : List Part) (ij lj : Nat), acc.length = j ∧ ps.length = j ∧ Tps H' acc (ps.map Part.data) ∧ H' cl = some (.lst [.int ij]) ∧ manyM (partM ws f) n (i + 1) (l - 1) = joinM ps (manyM (partM ws f) (n - j) ij lj) ∧
          (∀ b o, b ≠ cl → b ≠ D → H5 b = some o → H' b = some o)) hD
        (fun H' e s => ⟨[], i + 1, l - 1, rfl, rfl, .nil, s _ _ e25, by rw [Nat.sub_zero]; cases manyM (partM ws f) n (i + 1) (l - 1) <;> rfl, fun b o _ _ e => s _ _ e⟩) (fun j acc H' hj _ => hj) (fun acc H' _ => Nat.le_refl _) ?_ ?_
      · rintro j x acc _ H6 hj hla ⟨ps, ij, lj, hacc, hpl, tacc, e6, heq, fr⟩ hd6 ⟨rfl, rfl⟩
        obtain ⟨k, hk⟩ : ∃ k, n - j = k + 1 := ⟨n - j - 1, by omega⟩
        rw [hk, manyM] at heq
        have ew6 := fr _ _ hwc hDw.symm ew5
        walk_at "gg"
        refine ⟨rfl, ?_⟩
        walk_at "gg"
        cases hp : partM ws f ij lj with
        | bad j2 => rw [hmm, hp] at heq; cases heq
        | ok p i6 l6 =>
        rw [hp] at heq
        dsimp only at heq
        refine ⟨wl, cl, ws, f, ij, lj, p, i6, l6, rfl, ew6, e6, hf, hsh, hp, by omega, fun v H7 tv e7 c7 => ?_⟩
        have hd7 := c7 _ _ hDc hd6
        refine lc_step hd7 hla (by show _ < 16777216; omega) fun H8 e8 c8 => ?_
        have k8 : Tk H7 H8 := c8.tkl hd7
        refine ⟨ps ++ [p], i6, l6, by rw [List.length_append, hacc]; rfl, by rw [List.length_append, hpl]; rfl, ?_, c8 _ _ hDc.symm e7, ?_, fun b o hb hbD e => c8 _ _ hbD (c7 _ _ hb (fr b o hb hbD e))⟩
        · rw [List.map_append]
          exact ((tacc.mono (c7.tkl e6)).mono k8).append (.one (tv.mono k8))
        · rw [heq, show n - (j + 1) = k from by omega]
          cases manyM (partM ws f) k i6 l6 with
          | bad j => rfl
          | ok as i3 l3 =>
            show Rd.ok _ _ _ = Rd.ok _ _ _
            rw [List.append_assoc]
            rfl
      · rintro acc H6 hd6 ⟨ps, ij, lj, hacc, hpl, tacc, e6, heq, fr⟩
        rw [Nat.sub_self] at heq
        have heq' : manyM (partM ws f) n (i + 1) (l - 1) = .ok ps ij lj := by
          rw [heq]
          show Rd.ok (ps ++ []) _ _ = _
          rw [List.append_nil]
        rw [hmm] at heq'
        cases heq'
        have e56 := fr t5 _ h5c hD5.symm e5
        refine g_addL e56 hd6 (by show 1 + acc.length ≤ 16777216; omega) fun t7 H7 n7 e7 s7 => ?_
        walk_at "gg"
        rename_i t8 H8 n8 e8 s8
        have s78 := s7.trans s8
        refine q (.ref t8) H8 ?_ (s78 _ _ e6) (fun b o hb e => s78 _ _ (fr b o hb (fun z => by rw [z, hfrH] at e; cases e) (c25 b o hb e)))
        rw [mkOp_data (by rw [ha, hpl])]
        exact .tup e8 (.cons (.str _) (tacc.mono (Same.tk s78)))
    · rw [ha] at hp
      dsimp only at hp
      rw [if_pos hlt] at hp
      refine g_F (by rw [decide_eq_true hlt]; rfl) ?_
      unfold headM at hp
      cases hs1 : ws[i + 1]? with
      | none => rw [hs1] at hp; cases hp
      | some s1 =>
      rw [hs1] at hp
      dsimp only at hp
      cases hcn : cntW s1 with
      | none => rw [hcn] at hp; cases hp
      | some n =>
      obtain ⟨hv, hvl, hn1, hn4⟩ := cnt_val hcn
      rw [hcn] at hp
      dsimp only at hp
      cases hrr : rowsR (partM ws f) ws n (i + 1 + 1) (l - 1) with
      | bad j => rw [hrr] at hp; cases hp
      | ok rs i3 l3 =>
      rw [hrr] at hp
      dsimp only at hp
      cases hbb : partM ws f i3 l3 with
      | bad j => rw [hbb] at hp; cases hp
      | ok body i4 l4 =>
      rw [hbb] at hp
      cases hp
      walk_at "go"
      refine hat hs1 ew2 ?_
      walk_at "go"
      refine g_intT hv hvl ?_
      walk_at "go"
      refine g_setL (k := 0) e2 rfl fun H3 e3 c3 => ?_
      rw [show (((i + 1 : Nat) : Int) + 1) = ((i + 1 + 1 : Nat) : Int) from by omega] at e3
      have e3' : H3 cl = some (.lst [.int ((i + 1 + 1 : Nat) : Int)]) := e3
      have ew3 := c3 _ _ hwc ew2
      have c23 := c2.trans c3
      clear e3 e2 ew2 c3
      walk_at "gg"
      rename_i fl H4 n4 e4 s4
      have e34 := s4 _ _ e3'
      have ew4 := s4 _ _ ew3
      have c24 := c23.trans (Chg.same s4)
      have hfc : fl ≠ cl := (ne_of_none e3' n4).symm
      have hfw : fl ≠ wl := (ne_of_none ew3 n4).symm
      have n4' : H3 fl = none := n4
      have hfrH : H fl = none := by
        cases h : H fl with
        | none => rfl
        | some o => rw [c23 _ _ hfc h] at n4'; cases n4'
      refine g_isrng (by omega) (by omega) ?_
      rw [Int.toNat_natCast]
      refine for_any n (fun j σ H' => ∃ (x4 : Option V) (us : List V) (r : Rows) (ij lj : Nat), σ = [some (.ref wl), some (.ref cl), some (.str s), some (.int n), x4, some (.ref fl)] ∧ H' fl = some (.lst us) ∧ us.length = j ∧ Tps H' us r.datas ∧
        H' cl = some (.lst [.int ij]) ∧ rowsR (partM ws f) ws n (i + 1 + 1) (l - 1) = joinR r (rowsR (partM ws f) ws (n - j) ij lj) ∧ Chg cl H H' ∧ H' wl = some (.lst (ws.map V.str)))
        ⟨none, [], .nil, i + 1 + 1, l - 1, rfl, e4, rfl, .nil, e34, ?_, c24, ew4⟩ (fun j σ H' hj _ => hj) (fun σ H' _ => Nat.le_refl _) ?_ ?_
      · rw [Nat.sub_zero]
        cases rowsR (partM ws f) ws n (i + 1 + 1) (l - 1) <;> rfl
      · rintro j x σ _ H5 hj ⟨x4, us, r, ij, lj, rfl, ef, hul, tus, e5, heq, c5, ew5⟩ ⟨rfl, rfl⟩
        obtain ⟨k, hk⟩ : ∃ k, n - j = k + 1 := ⟨n - j - 1, by omega⟩
        rw [hk, rowsR] at heq
        cases hsm : ws[ij]? with
        | none => rw [hrr, hsm] at heq; cases heq
        | some sm =>
        rw [hsm] at heq
        dsimp only at heq
        cases hmk : isMark sm "." with
        | false => rw [hrr, hmk, if_neg (by decide)] at heq; cases heq
        | true =>
        rw [hmk, if_pos rfl] at heq
        cases hp : partM ws f (ij + 1) lj with
        | bad j2 => rw [hrr, hp] at heq; cases heq
        | ok p i7 l7 =>
        rw [hp] at heq
        dsimp only at heq
        have hsml := hsh sm (List.mem_of_getElem? hsm)
        walk_at "go"
        refine g_setL (k := 0) e5 rfl fun H6 e6 c6 => ?_
        rw [show ((ij : Int) + 1) = ((ij + 1 : Nat) : Int) from by omega] at e6
        have e6' : H6 cl = some (.lst [.int ((ij + 1 : Nat) : Int)]) := e6
        have k56 : Tk H5 H6 := c6.tkl e5
        have ew6 := c6 _ _ hwc ew5
        have ef6 := c6 _ _ hfc ef
        clear e6
        walk_at "go"
        refine g_tyl (.of ef6) ?_
        walk_at "go"
        rw [show (((ij + 1 : Nat) : Int) - 1) = (ij : Int) from by omega]
        refine hat hsm ew6 ?_
        walk_at "go"
        refine g_slS hsml ?_
        rw [cut2]
        walk_at "go"
        refine ⟨wl, cl, ws, f, ij + 1, lj, p, i7, l7, rfl, ew6, e6', hf, hsh, hp, by omega, fun v H7 tv e7 c7 => ?_⟩
        have k67 : Tk H6 H7 := c7.tkl e6'
        have ef7 := c7 _ _ hfc ef6
        have ew7 := c7 _ _ hwc ew6
        walk_at "go"
        intro t8 H8 n8 e8 s8
        have ef8 := s8 _ _ ef7
        walk_at "go"
        refine g_append ef8 (by rw [hul]; show _ < 16777216; omega) fun H9 e9 c9 => ?_
        have k89 : Tk H8 H9 := c9.tkl ef8
        have k79 : Tk H7 H9 := (Same.tk s8).trans k89
        walk_at "gg"
        refine ⟨_, us ++ [.ref t8], r.app (.cons (tailS sm) p .nil), i7, l7, rfl, e9, by rw [List.length_append, hul]; rfl, ?_, c9 _ _ hfc.symm (s8 _ _ e7), ?_, ?_, c9 _ _ hfw.symm (s8 _ _ ew7)⟩
        · rw [Rows.app_datas]
          exact (tus.mono (k56.trans (k67.trans k79))).append (.one (.tup (k89 _ _ e8) (.cons (.str _) (.one (tv.mono k79)))))
        · rw [heq, show n - (j + 1) = k from by omega]
          cases rowsR (partM ws f) ws k i7 l7 with
          | bad j => rfl
          | ok r3 i3 l3 =>
            show Rd.ok _ _ _ = Rd.ok _ _ _
            rw [Rows.app_snoc]
        · exact fun b o hb e => c9 _ _ (fun z => by rw [z, hfrH] at e; cases e) (s8 _ _ (c7 _ _ hb (c6 _ _ hb (c5 b o hb e))))
      rintro σ H5 ⟨x4, us, r, ij, lj, rfl, ef, hul, tus, e5, heq, c5, ew5⟩
      rw [Nat.sub_self] at heq
      have heq' : rowsR (partM ws f) ws n (i + 1 + 1) (l - 1) = .ok r ij lj := by
        rw [heq]
        show Rd.ok (r.app .nil) _ _ = _
        rw [Rows.app_nil]
      rw [hrr] at heq'
      cases heq'
      walk_at "gg"
      rename_i t6 H6 n6 e6 s6
      have ew6 := s6 _ _ ew5
      have e56 := s6 _ _ e5
      refine ⟨wl, cl, ws, f, i3, l3, body, i', l', rfl, ew6, e56, hf, hsh, hbb, by omega, fun v H7 tv e7 c7 => ?_⟩
      walk_at "gg"
      rename_i t8 H8 n8 e8 s8
      have k67 : Tk H6 H7 := c7.tkl e56
      have e67 := k67 _ _ e6
      exact q (.ref t8) H8 (.tup e8 (.cons (.str _) (.cons (.tup (s8 _ _ e67) ((tus.mono ((Same.tk s6).trans k67)).mono (Same.tk s8))) (.one (tv.mono (Same.tk s8)))))) (s8 _ _ e7) (c5.trans ((Chg.same s6).trans (c7.trans (Chg.same s8))))

/-! ### the law's own reading: whole texts; what it wants -/
section
variable {K : PySem.W.Frag} {H1 : Hp} {g : TG} {te : TE} {vs : List Nat} {σ : L2.St} {a : Addr} {xs : List V} {Qd : Addr → Hp → Prop}
/-- a list of new lists -/
theorem lc_lists (ea : H1 a = some (.lst xs)) (hl : xs.length ≤ 100000) (F : Nat → List V)
    (hs : ∀ (i : Nat) x H' (Nx : V → Hp → Prop), xs[i]? = some x → Same H1 H' → (∀ l H4, H' l = none → Same H' H4 → H4 l = some (.lst (F i)) → Nx (.ref l) H4) → g x (wipe σ vs) H' fun σ2 H2 => wipe σ2 vs = wipe σ vs ∧ te σ2 H2 Nx)
    (hd : ∀ D (ys : List V) H', Fr H1 D → H' D = some (.lst ys) → ys.length = xs.length → (∀ (i : Nat), i < xs.length → ∃ l : Addr, ys[i]? = some (.ref l) ∧ H1 l = none ∧ l ≠ D ∧ H' l = some (.lst (F i))) → Same H1 H' → Qd D H') : LcR (Itl K a) g tYes te vs σ H1 Qd := by
  intro D hD
  refine lc_any xs.length (fun i acc H' => acc.length = i ∧ (∀ (j : Nat), j < i → ∃ l : Addr, acc[j]? = some (.ref l) ∧ H1 l = none ∧ l ≠ D ∧ H' l = some (.lst (F j))) ∧ Same H1 H') hD (fun H' _ s => ⟨rfl, fun j hj => absurd hj (Nat.not_lt_zero j), s⟩) (fun i acc H' hi ⟨_, _, s⟩ => ⟨_, _, .of (s _ _ ea), List.getElem?_eq_getElem hi⟩) (fun acc H' ⟨_, _, s⟩ => ⟨_, .of (s _ _ ea), Nat.le_refl _⟩) ?_ ?_
  · rintro i x acc H2 H' hi hla ⟨ha, hf, s2⟩ hd2 ⟨rfl, hx⟩
    have hx := hx _ (.of (s2 _ _ ea))
    refine hs i x _ _ hx s2 fun l H4 nl s4 el => ?_
    have hlD : l ≠ D := (ne_of_none hd2 nl).symm
    refine lc_step (s4 _ _ hd2) hla (by show _ < 16777216; omega) fun H5 e5 c5 => ?_
    refine ⟨by rw [List.length_append, ha]; rfl, fun j hj => ?_, Same.chg (s2.trans s4) hD c5⟩
    by_cases hji : j < i
    · obtain ⟨m, h1, h2, h3, h4⟩ := hf j hji
      exact ⟨m, by rw [List.getElem?_append_left (by omega)]; exact h1, h2, h3, c5 _ _ h3 (s4 _ _ h4)⟩
    · have : j = acc.length := by omega
      subst this
      refine ⟨l, by rw [List.getElem?_append_right (Nat.le_refl _), Nat.sub_self]; rfl, s2.free nl, hlD, ?_⟩
      rw [ha]
      exact c5 _ _ hlD el
  · rintro acc H' hd2 ⟨ha, hf, s⟩
    exact hd D acc H' hD hd2 ha hf s
end
/-- the first place of a text -/
theorem g_indexF {K : PySem.W.Frag} {H : Hp} {Q : VK} {a : Addr} {ss : List Str} {k : Str} {j : Nat} (h : SqL K H a (ss.map V.str)) (e : ss[j]? = some k) (nd : ∀ m s, m < j → ss[m]? = some s → s ≠ k) (q : Q (.int (j : Nat)) H) : rIndex K (.ref a) [.str k] H Q := by
  refine ⟨a, ss.map V.str, .str k, j, .str k, rfl, rfl, h, rfl, flat_strs ss, by rw [List.getElem?_map, e]; rfl, by show (k == k) = true; simp, fun m z' hm hz => ?_, q⟩
  rw [List.getElem?_map] at hz
  obtain ⟨s, hs, rfl⟩ := Option.map_eq_some_iff.mp hz
  show (s == k) = false
  have hne : s ≠ k := nd m s hm hs
  simpa using hne
theorem cut_mid {ss : List Str} {k : Nat} (h1 : 1 ≤ k) (h : k ≤ ss.length) : cutV (ss.map V.str) (some (1 : Int)) (some (k : Int)) = ((ss.drop 1).take (k - 1)).map V.str := by
  unfold cutV
  rw [show (1 : Int) = ((1 : Nat) : Int) from rfl, HT.sIx_nat, HT.sIx_nat, List.length_map, Nat.min_eq_left h, Nat.min_eq_left (by omega), ← List.map_drop, ← List.map_take]
theorem marks_take {ws : List Str} : ∀ {n i : Nat}, ((ws.drop i).take (marksM ws n i).length).map tailS = marksM ws n i ∧ (∀ (m : Nat) s, i ≤ m → m < i + (marksM ws n i).length → ws[m]? = some s → isMark s "." = true)
  | 0, i => ⟨by simp [marksM], fun m s h1 h2 _ => absurd h2 (by show ¬ m < i + 0; omega)⟩
  | n + 1, i => by
    unfold marksM
    cases h : ws[i]? with
    | none => exact ⟨by simp, fun m s h1 h2 _ => absurd h2 (by show ¬ m < i + 0; omega)⟩
    | some w =>
      dsimp only
      cases hm : isMark w "." with
      | false =>
        rw [if_neg (by decide)]
        exact ⟨by simp, fun m s h1 h2 _ => absurd h2 (by show ¬ m < i + 0; omega)⟩
      | true =>
        rw [if_pos rfl]
        obtain ⟨h1, h2⟩ := marks_take (ws := ws) (n := n) (i := i + 1)
        obtain ⟨g1, g2⟩ := List.getElem?_eq_some_iff.mp h
        refine ⟨?_, fun m s k1 k2 k3 => ?_⟩
        · rw [List.length_cons, List.drop_eq_getElem_cons g1, g2, List.take_succ_cons, List.map_cons, h1]
        · by_cases hmi : m = i
          · subst hmi
            rw [h] at k3
            cases k3
            exact hm
          · rw [List.length_cons] at k2
            exact h2 m s (by omega) (by omega) k3
theorem mark_eq {s : Str} (h : isMark s "." = true) : s ≠ "=" := by
  rintro rfl
  exact absurd h (by decide +kernel)
theorem name_eq {s : Str} (h : isName s) : s ≠ "=" := fun e => by
  have := h.2.2 61 (by rw [e]; decide)
  omega
/-- what stands in a row that is a function -/
theorem fnR_parts {ws : List Str} {f : Fn1} (h : fnR ws = .ok f) : ∃ (s0 : Str) (n : Nat) (p : Part) (i' l' : Nat), ws[0]? = some s0 ∧ f = ⟨s0, marksM ws 4 1, p⟩ ∧ n = (marksM ws 4 1).length ∧ ws[1 + n]? = some ("=" : Str) ∧ (∀ m s, m < 1 + n → ws[m]? = some s → s ≠ "=") ∧ partM ws 12 (1 + n + 1) 60 = .ok p i' l' := by
  unfold fnR at h
  split at h
  · rename_i hn
    split at h
    · rename_i he
      cases h1 : partR ws (1 + (marksM ws 4 1).length + 1) with
      | bad j => rw [h1] at h; cases h
      | ok p =>
        rw [h1] at h
        cases h
        unfold partR at h1
        cases h2 : partM ws 12 (1 + (marksM ws 4 1).length + 1) 60 with
        | bad j => rw [h2] at h1; cases h1
        | ok a i' l' =>
          rw [h2] at h1
          dsimp only at h1
          split at h1
          · cases h1
          · cases h1
            have hlen := (List.getElem?_eq_some_iff.mp he).1
            obtain ⟨s0, hs0⟩ : ∃ s, ws[0]? = some s := ⟨_, List.getElem?_eq_getElem (by omega)⟩
            rw [hs0, Option.getD_some] at hn ⊢
            refine ⟨s0, _, p, i', l', rfl, rfl, rfl, he, fun m s hm hs => ?_, h2⟩
            by_cases h0 : m = 0
            · subst h0
              rw [hs0] at hs
              cases hs
              exact name_eq hn
            · exact mark_eq ((marks_take (ws := ws) (n := 4) (i := 1)).2 m s (by omega) hm hs)
    · cases h
  · cases h
theorem partR_parts {ws : List Str} {i : Nat} {p : Part} (h : partR ws i = .ok p) : ∃ i' l', partM ws 12 i 60 = .ok p i' l' := by
  unfold partR at h
  cases h2 : partM ws 12 i 60 with
  | bad j => rw [h2] at h; cases h
  | ok a i' l' =>
    rw [h2] at h
    dsimp only at h
    split at h
    · cases h
    · cases h
      exact ⟨_, _, rfl⟩
def spLawRead : Sp := fun vs H Q _ => ∃ (t : Str), vs = [.str t] ∧ t.length ≤ 90000 ∧ (∀ (r j : Nat), readM t = .bad r j → ∀ (p : Addr) H', Same H H' → H' p = some (.tup [.str "text", .int r, .int j]) → Q (.ref p) H') ∧
  ∀ P, readM t = .ok P → ∀ (p u : Addr) H', Same H H' → H' p = some (.tup [.str "", .ref u]) → Tp H' (.ref u) P.data → Q (.ref p) H'

/-! ### the law's own reading: whole texts -/
theorem pure_lawread {K : PySem.W.Frag} {w : World} : PureOk 1 spLawRead (t_law_read K w spPartWrong spRowWrong (spBuilt 13)) 10 := by
  refine ⟨fun vs H Q E ⟨_, e, _⟩ => by rw [e]; rfl, ?_⟩
  rintro vs H Q E ⟨t, rfl, htl, qw, q⟩
  show t_law_read K w _ _ _ _ [some (.str t), none, none, none, none, none, none, none, none, none] H
  unfold t_law_read
  obtain ⟨hp1, hp2⟩ := split_pieces (x := t) (y := "\n") (by decide) (by decide +kernel)
  have hrl := rows_len t
  have hrows : (rowsOf t).length = (Txt.split t "\n").length := by unfold rowsOf; rw [List.length_map]
  walk_at "gg"
  rename_i fl H1 n1 e1 s1
  refine g_seqL ?_
  walk_at "gg"
  refine ⟨_, _, rfl, rfl, by decide, by show t.length + 2 ≤ 16777216; omega, fun pl H2 n2 e2 s2 => ?_⟩
  refine g_isL (.of e2) ?_
  refine lc_lists e2 (by rw [List.length_map]; omega) (fun i => (((rowsOf t)[i]?).getD []).map V.str) ?_ ?_
  · intro i x H3 Nx hx s3 hN
    rw [List.getElem?_map] at hx
    obtain ⟨line, hline, rfl⟩ := Option.map_eq_some_iff.mp hx
    have hll := hp2 line (List.mem_of_getElem? hline)
    have hws : (rowsOf t)[i]? = some (Txt.split line " ") := by unfold rowsOf; rw [List.getElem?_map, hline]; rfl
    walk_at "gg"
    refine ⟨rfl, ?_⟩
    walk_at "gg"
    refine ⟨_, _, rfl, rfl, by decide, by show _ + 2 ≤ 16777216; omega, fun wl H5 n5 e5 s5 => ?_⟩
    exact hN wl H5 n5 s5 (by rw [hws]; exact e5)
  intro rl ys H3 nrl erl hyl hys s3
  rw [List.length_map, ← hrows] at hyl
  have s13 := s2.trans s3
  have e13 := s13 _ _ e1
  have s03 := s1.trans s13
  have hfr : rl ≠ fl := (ne_of_none (s2 _ _ e1) nrl).symm
  have hrow : ∀ (i : Nat) (ws : List Str), (rowsOf t)[i]? = some ws → ∃ l : Addr, ys[i]? = some (.ref l) ∧ l ≠ fl ∧ H3 l = some (.lst (ws.map V.str)) := by
    intro i ws hws
    obtain ⟨l, h1, h2, h3, h4⟩ := hys i (by rw [List.length_map, ← hrows]; exact (List.getElem?_eq_some_iff.mp hws).1)
    rw [hws] at h4
    exact ⟨l, h1, (ne_of_none (s2 _ _ e1) h2).symm, h4⟩
  have hsome : ∀ (i : Nat) x, ys[i]? = some x → ∃ ws, (rowsOf t)[i]? = some ws := fun i x h => ⟨_, List.getElem?_eq_getElem (by have := (List.getElem?_eq_some_iff.mp h).1; omega)⟩
  clear hys
  walk_at "gg"
  refine g_enum ?_
  walk_at "gg"
  refine ⟨rl, _, rfl, .of erl, ?_⟩
  refine for_enumL (xs := ys) (fun i σ H' => ∃ (x4 x5 x6 x7 x8 x9 : Option V) (u : V) (us : List V) (fs : List Fn1) (a : Option Part), σ = [some (.str t), some (.ref fl), some u, some (.ref rl), x4, x5, x6, x7, x8, x9] ∧ (a = none → u = .non) ∧ (∀ p, a = some p → Tp H' u p.data) ∧
    H' fl = some (.lst us) ∧ Tps H' us (fs.map Fn1.data) ∧ fs.length ≤ 8 ∧ readM t = readL ((rowsOf t).drop i) i fs a ∧ Chg fl H3 H') (fun i σ H' ⟨_, _, _, _, _, _, _, _, _, _, _, _, _, _, _, _, _, c⟩ => c _ _ hfr erl)
    ⟨none, none, none, none, none, none, .non, [], [], none, rfl, fun _ => rfl, fun p h => (by cases h), e13, .nil, by decide, rfl, .refl⟩ ?_ ?_
  · rintro i x σ H4 T H5 hx ⟨x4, x5, x6, x7, x8, x9, u, us, fs, a, rfl, hu1, hu2, e4, tus, hf8, hrd, c4⟩ nT eT s5
    obtain ⟨ws, hws⟩ := hsome i x hx
    obtain ⟨wl, hyw, hwf, ew3⟩ := hrow i ws hws
    rw [hx] at hyw
    cases hyw
    rw [readL_drop hws] at hrd
    obtain ⟨line, hline, hwsl⟩ : ∃ line, (Txt.split t "\n")[i]? = some line ∧ ws = Txt.split line " " := by
      unfold rowsOf at hws
      rw [List.getElem?_map] at hws
      obtain ⟨line, h1, h2⟩ := Option.map_eq_some_iff.mp hws
      exact ⟨line, h1, h2.symm⟩
    have hll := hp2 line (List.mem_of_getElem? hline)
    obtain ⟨hw1, hw2⟩ := split_pieces (x := line) (y := " ") (by decide) (by decide +kernel)
    have hwl : (Txt.split line " ").length ≤ line.length + 2 := PyProof.Rows.split_le line " "
    rw [← hwsl] at hw1 hw2 hwl
    clear hwsl
    have hul : us.length ≤ 8 := by rw [tus.length, List.length_map]; exact hf8
    have hsh : ShortW ws := fun s hs => by have := hw2 s hs; omega
    have hwl' : ws.length ≤ 100000 := by omega
    refine g_un2 eT ?_
    dsimp only [List.set]
    have e5 := s5 _ _ e4
    have ew5 := s5 _ _ (c4 _ _ hwf ew3)
    have s05 : Same H H5 := Same.chg s1 n1 ((Chg.same s13).trans (c4.trans (.same s5)))
    have hat : ∀ {H : Hp} {Q : VK} {k : Nat} {s : Str}, ws[k]? = some s → H wl = some (.lst (ws.map V.str)) → Q (.str s) H → rIxG K w (.ref wl) (.int (k : Int)) H Q := fun hs h q =>
      g_ixL (.of h) (v := .str _) (atI_of (by omega) (by rw [Int.toNat_natCast, List.getElem?_map, hs]; rfl)) q
    obtain ⟨s0, hs0⟩ : ∃ s, ws[0]? = some s := by
      cases ws with
      | nil => exact absurd rfl hw1
      | cons s r => exact ⟨s, rfl⟩
    have hlen : 1 ≤ ws.length := (List.getElem?_eq_some_iff.mp hs0).1
    walk_at "gg"
    cases a with
    | some p =>
      obtain ⟨ua, uxs, rfl, eu, _⟩ := (hu2 p rfl).part
      refine .inl ⟨rfl, ?_⟩
      walk_at "gg"
      rename_i t6 H6 n6 e6 s6
      exact qw i 0 hrd t6 H6 (s05.trans s6) e6
    | none =>
    dsimp only at hrd
    rw [hu1 rfl]
    refine .inl ⟨rfl, ?_⟩
    walk_at "gg"
    refine hat (k := 0) hs0 ew5 ?_
    walk_at "gg"
    by_cases hq : s0 = "?"
    · rw [if_pos (by rw [hs0, hq])] at hrd
      refine g_F (by rw [decide_eq_true hq]; rfl) ?_
      refine g_F rfl ?_
      walk_at "gg"
      refine hat (k := 0) hs0 ew5 ?_
      walk_at "gg"
      refine g_T (decide_eq_true hq) ?_
      walk_at "gg"
      obtain ⟨r, hr, hv⟩ := run_wrong (ws := ws) (i := 1) hlen
      refine ⟨wl, ws, 1, r, rfl, ew5, hwl', hsh, hlen, hr, fun H6 s6 => ?_⟩
      rw [hv]
      have s06 := s05.trans s6
      have ew6 := s6 _ _ ew5
      have e6 := s6 _ _ e5
      cases hp : partR ws 1 with
      | bad j =>
        rw [hp] at hrd
        rw [show wrongV (.bad j : Rx Part) = .int (j : Nat) from rfl]
        walk_at "gg"
        refine .inl ⟨rfl, ?_⟩
        walk_at "gg"
        rename_i t7 H7 n7 e7 s7
        exact qw i j hrd t7 H7 (s06.trans s7) e7
      | ok p =>
        obtain ⟨i2, l2, hpm⟩ := partR_parts hp
        rw [hp] at hrd
        dsimp only at hrd
        rw [show wrongV (.ok p : Rx Part) = .non from rfl]
        walk_at "gg"
        refine .inl ⟨rfl, ?_⟩
        walk_at "gg"
        refine hat (k := 0) hs0 ew6 ?_
        walk_at "gg"
        refine g_T (decide_eq_true hq) ?_
        walk_at "gg"
        rename_i cl H7 n7 e7 s7
        refine ⟨wl, cl, ws, 12, 1, 60, p, i2, l2, rfl, s7 _ _ ew6, e7, hwl', hsh, hpm, by decide, fun v H8 tv e8 c8 => ?_⟩
        have s68 : Same H6 H8 := Same.chg s7 n7 c8
        have s48 := s5.trans (s6.trans s68)
        walk_at "gg"
        exact ⟨_, _, _, _, _, _, v, us, fs, some p, rfl, fun h => (by cases h), fun p' h => (by cases h; exact tv), s68 _ _ e6, tus.mono (Same.tk s48), hf8, hrd, c4.trans (.same s48)⟩
    · rw [if_neg (by rw [hs0]; exact fun z => hq (Option.some.inj z))] at hrd
      refine g_T (by rw [decide_eq_false hq]; rfl) ?_
      walk_at "gg"
      by_cases h8 : fs.length = 8
      · rw [if_pos h8] at hrd
        refine g_T (decide_eq_true (by rw [tus.length, List.length_map]; omega)) ?_
        walk_at "gg"
        rename_i t6 H6 n6 e6 s6
        exact qw i 0 hrd t6 H6 (s05.trans s6) e6
      · rw [if_neg h8] at hrd
        refine g_F (decide_eq_false (by rw [tus.length, List.length_map]; omega)) ?_
        walk_at "gg"
        refine hat (k := 0) hs0 ew5 ?_
        walk_at "gg"
        refine g_F (decide_eq_false hq) ?_
        walk_at "gg"
        refine ⟨wl, ws, rfl, ew5, hwl', hsh, hw1, fun H6 s6 => ?_⟩
        have s06 := s05.trans s6
        have ew6 := s6 _ _ ew5
        have e6 := s6 _ _ e5
        cases hp : fnR ws with
        | bad j =>
          rw [hp] at hrd
          rw [show wrongV (.bad j : Rx Fn1) = .int (j : Nat) from rfl]
          walk_at "gg"
          refine .inl ⟨rfl, ?_⟩
          walk_at "gg"
          rename_i t7 H7 n7 e7 s7
          exact qw i j hrd t7 H7 (s06.trans s7) e7
        | ok f =>
          obtain ⟨s0', n, p, i2, l2, hs0', hf, hn, heq, hne, hpm⟩ := fnR_parts hp
          rw [hs0] at hs0'
          cases hs0'
          rw [hp] at hrd
          dsimp only at hrd
          rw [show wrongV (.ok f : Rx Fn1) = .non from rfl]
          walk_at "gg"
          refine .inl ⟨rfl, ?_⟩
          walk_at "gg"
          refine hat (k := 0) hs0 ew6 ?_
          walk_at "gg"
          refine g_F (decide_eq_false hq) ?_
          walk_at "go"
          refine g_tyl (.of ew6) ?_
          walk_at "go"
          refine g_indexF (.of ew6) heq hne ?_
          walk_at "go"
          refine g_tyl (.of e6) ?_
          walk_at "go"
          refine hat (k := 0) hs0 ew6 ?_
          walk_at "go"
          have hn4 : n ≤ 4 := by rw [hn]; exact marksM_ok.1
          have hnl : 1 + n < ws.length := (List.getElem?_eq_some_iff.mp heq).1
          have hmt := (marks_take (ws := ws) (n := 4) (i := 1)).1
          rw [← hn] at hmt
          refine g_seqL ?_
          walk_at "go"
          refine g_slL (.of ew6) fun l7 H7 n7 e7 s7 => ?_
          rw [cut_mid (by omega) (by omega), show 1 + n - 1 = n from by omega] at e7
          refine g_isL (.of e7) ?_
          have htl2 : ((ws.drop 1).take n).length = n := by rw [List.length_take, List.length_drop]; omega
          refine lc_mapL e7 (by rw [List.length_map]; omega) (fun i y _ => ∃ s, ((ws.drop 1).take n)[i]? = some s ∧ y = .str (tailS s)) (fun i y H H' _ h => h) ?_ ?_
          · intro k y H8 Nx hy s8 hN
            rw [List.getElem?_map] at hy
            obtain ⟨sk, hsk, rfl⟩ := Option.map_eq_some_iff.mp hy
            have hskl := hsh sk (List.mem_of_mem_drop (List.mem_of_mem_take (List.mem_of_getElem? hsk)))
            walk_at "gg"
            refine ⟨rfl, ?_⟩
            walk_at "gg"
            refine g_slS hskl ?_
            rw [cut2]
            exact hN _ H8 (.refl _) ⟨sk, hsk, rfl⟩
          intro D zs H8 nD eD hzl hzs s8
          have hzz : zs = f.things.map V.str := by
            rw [hf]
            show zs = (marksM ws 4 1).map V.str
            rw [← hmt]
            refine List.ext_getElem? fun k => ?_
            by_cases hk : k < zs.length
            · obtain ⟨sk, h1, h2⟩ := hzs k _ (List.getElem?_eq_getElem hk)
              rw [List.getElem?_eq_getElem hk, h2, List.getElem?_map, List.getElem?_map, h1]
              rfl
            · rw [List.getElem?_eq_none (by omega), List.getElem?_eq_none (by rw [List.length_map, List.length_map, htl2]; rw [hzl, List.length_map, htl2] at hk; omega)]
          subst hzz
          have s68 := s7.trans s8
          walk_at "gg"
          rename_i tp H9 n9 e9 s9 cl H10 n10 e10 s10
          have s610 := s68.trans (s9.trans s10)
          rw [show (((1 + n : Nat) : Int) + 1) = ((1 + n + 1 : Nat) : Int) from by omega] at e10
          refine ⟨wl, cl, ws, 12, 1 + n + 1, 60, p, i2, l2, rfl, s610 _ _ ew6, e10, hwl', hsh, hpm, by decide, fun v H11 tv e11 c11 => ?_⟩
          have s69 := s68.trans s9
          have s911 : Same H9 H11 := Same.chg s10 n10 c11
          have e911 := s911 _ _ e9
          have e611 := s911 _ _ (s69 _ _ e6)
          walk_at "go"
          intro tp2 H12 n12 e12 s12
          have e612 := s12 _ _ e611
          walk_at "go"
          refine g_append e612 (by show _ < 16777216; omega) fun H13 e13 c13 => ?_
          have k1213 : Tk H12 H13 := c13.tkl e612
          have s412 := s5.trans (s6.trans (s69.trans (s911.trans s12)))
          walk_at "gg"
          refine ⟨_, _, _, _, _, _, .non, us ++ [.ref tp2], fs ++ [f], none, rfl, fun _ => rfl, fun p h => (by cases h), e13, ?_, by rw [List.length_append, List.length_singleton]; omega, hrd, c4.trans ((Chg.same s412).trans c13)⟩
          rw [List.map_append]
          refine ((tus.mono (Same.tk s412)).mono k1213).append (.one ?_)
          have hfd : f.data = .tuple [.str s0, .tuple (f.things.map .str), p.data] := by rw [hf]; rfl
          rw [hfd]
          exact .tup (k1213 _ _ e12) (.cons (.str _) (.cons (.tup (k1213 _ _ (s12 _ _ e911)) (Tps.strs _)) (.one ((tv.mono (Same.tk s12)).mono k1213))))
  · rintro σ H4 ⟨x4, x5, x6, x7, x8, x9, u, us, fs, a, rfl, hu1, hu2, e4, tus, hf8, hrd, c4⟩
    rw [hyl, List.drop_length] at hrd
    have s04 : Same H H4 := Same.chg s1 n1 ((Chg.same s13).trans c4)
    have erl4 := c4 _ _ hfr erl
    walk_at "gg"
    cases a with
    | none =>
      rw [hu1 rfl]
      refine .inl ⟨rfl, ?_⟩
      walk_at "gg"
      rename_i t5 H5 n5 e5 s5
      have hrd' : readM t = .bad (rowsOf t).length 0 := hrd
      rw [← hyl] at hrd'
      exact qw _ 0 hrd' t5 H5 (s04.trans s5) e5
    | some p =>
      have tu := hu2 p rfl
      obtain ⟨ua, uxs, rfl, eu, _⟩ := tu.part
      refine .inl ⟨rfl, ?_⟩
      walk_at "gg"
      rename_i t4 H5 n5 e5 s5 t6 H6 n6 e6 s6 t7 H7 n7 e7 s7
      have s67 := s6.trans s7
      have s57 := s5.trans s67
      exact q ⟨fs, p⟩ hrd t7 t6 H7 (s04.trans s57) e7 (.tup (s7 _ _ e6) (.cons (.tup (s67 _ _ e5) (tus.mono (Same.tk s57))) (.one (tu.mono (Same.tk s57)))))

/-! ### the law's own reading: what the program's reading tells -/
def t_readsR (K : PySem.W.Frag) (w : World) : TS :=
  (tSeq (tIfS (tTest (tOp (rIsG false) (tVar 2) (tC .non))) (tRet (tTupN (tCons (tC (.str "")) (tCons (tVar 1) tNil)))) tNext)
  (tSeq (tAsg (tLstN (tCons (tCB (rIsiX K) (tCons (tVar 2) (tCons (tC (.ref (He.ga K "NoProgram"))) tNil))) (tCons (tCB (rIsiX K) (tCons (tVar 2) (tCons (tC (.ref (He.ga K "Twice"))) tNil))) (tCons (tCB (rIsiX K) (tCons (tVar 2) (tCons (tC (.ref (He.ga K "Hidden"))) tNil))) tNil)))) (gName 4))
  (tSeq (tAsg (tOp (rAddG K) (tVar 4) (tLstN (tCons (tCB (rIsiX K) (tCons (tVar 2) (tCons (tC (.ref (He.ga K "Stranger"))) tNil))) (tCons (tCB (rIsiX K) (tCons (tVar 2) (tCons (tC (.ref (He.ga K "NoText"))) tNil))) (tCons (tCB (rIsiX K) (tCons (tVar 2) (tCons (tC (.ref (He.ga K "More"))) tNil))) tNil))))) (gName 4))
  (tSeq (tAsg (tOp (rAddG K) (tVar 4) (tLstN (tCons (tCB (rIsiX K) (tCons (tVar 2) (tCons (tC (.ref (He.ga K "NoRows"))) tNil))) (tCons (tCB (rIsiX K) (tCons (tVar 2) (tCons (tC (.ref (He.ga K "NoRow"))) tNil))) tNil)))) (gName 4))
  (tSeq (tIfS (tOr (tTest (tOp (rNeG K) (tBM K "list" (rCount K) (tVar 4) (tCons (tC (.bl true)) tNil)) (tC (.int 1)))) (tNot (tTru K (tCB (rIsiX K) (tCons (tVar 2) (tCons (tC (.ty "ValueError")) tNil)))))) (tRet (tTupN (tCons (tC (.str "none")) tNil))) tNext)
  (tSeq (tIfS (tTru K (tIxG K w (tVar 4) (tC (.int 4)))) (tRet (tTupN (tCons (tC (.str "text")) (tCons (tFldX K "row" (tVar 2)) (tCons (tFldX K "word" (tVar 2)) tNil))))) tNext)
  (tRet (tTupN (tCons (tIxG K w (tLstN (tCons (tC (.str "program")) (tCons (tC (.str "twice")) (tCons (tC (.str "hidden")) (tCons (tC (.str "stranger")) (tCons (tC (.str "")) (tCons (tC (.str "")) (tCons (tC (.str "")) (tCons (tC (.str "")) tNil))))))))) (tBM K "list" (rIndex K) (tVar 4) (tCons (tC (.bl true)) tNil))) (tCons (tFldX K "name" (tVar 2)) tNil))))))))))
theorem reads_rest {K : PySem.W.Frag} {w : World} {D : Ends} {H : Hp} {x0 x1 x3 x4 : Option V} {a dd : Addr} {c : Str} {fs : List (Str × V)} (b0 b1 b2 b3 b4 b5 b6 b7 : Bool) (ha : H a = some (hxc a (He.ga K c) (some dd))) (hdd : H dd = some (.xd fs)) (ec : ErrC K c)
    (h0 : decide (c = "NoProgram") = b0) (h1 : decide (c = "Twice") = b1) (h2 : decide (c = "Hidden") = b2) (h3 : decide (c = "Stranger") = b3) (h4 : decide (c = "NoText") = b4) (h5 : decide (c = "More") = b5) (h6 : decide (c = "NoRows") = b6) (h7 : decide (c = "NoRow") = b7) (hc : ([V.bl b0, .bl b1, .bl b2, .bl b3, .bl b4, .bl b5, .bl b6, .bl b7].countP fun z => L2.eqV z (.bl true)) = 1) (j : Nat) (hj : [V.bl b0, .bl b1, .bl b2, .bl b3, .bl b4, .bl b5, .bl b6, .bl b7][j]? = some (.bl true))
    (hmin : ∀ (m : Nat) (z' : V), m < j → [V.bl b0, .bl b1, .bl b2, .bl b3, .bl b4, .bl b5, .bl b6, .bl b7][m]? = some z' → L2.eqV z' (.bl true) = false) (s : Str) (hs : [V.str "program", .str "twice", .str "hidden", .str "stranger", .str "", .str "", .str "", .str ""][j]? = some (.str s))
    (q4 : b4 = true → ∃ r k : V, PySem.W.findIn K (.ref (He.ga K c)) "row" = some none ∧ PySem.W.findIn K (.ref (He.ga K c)) "word" = some none ∧ fs = ([("word", k), ("row", r)] : List (Str × V)) ∧ ∀ t H', Same H H' → H' t = some (.tup [.str "text", r, k]) → D.rt (.ref t) H')
    (q1 : b4 = false → PySem.W.findIn K (.ref (He.ga K c)) "name" = some none ∧ ∃ x, fs = ([("name", .str x)] : List (Str × V)) ∧ ∀ t H', Same H H' → H' t = some (.tup [.str s, .str x]) → D.rt (.ref t) H') :
    t_readsR K w D [x0, x1, some (.ref a), x3, x4] H := by
  have hI : ∀ (t : Str) (b : Bool), t ∈ (["NoProgram", "Twice", "Hidden", "Stranger", "More", "NoRows", "NoText", "NoRow"] : List Str) → decide (c = t) = b → PySem.W.kitOne K (.ref (He.ga K c)) (.ref (He.ga K t)) = some b := fun t b ht hb => by rw [← hb]; exact ec.is t ht
  have hd' : ∀ {H'}, Same H H' → ∀ d', some dd = some d' → ∃ fs, H' d' = some (.xd fs) := fun s d' e => by cases e; exact ⟨fs, s _ _ hdd⟩
  have hj8 : j < 8 := (List.getElem?_eq_some_iff.mp hj).1
  unfold t_readsR
  walk_at "gg"
  refine .inl ⟨rfl, ?_⟩
  walk_at "gg"
  refine g_isXR ha (hd' (.refl _)) ec.x (hI "NoProgram" b0 (by simp) h0) ?_
  walk_at "gg"
  refine g_isXR ha (hd' (.refl _)) ec.x (hI "Twice" b1 (by simp) h1) ?_
  walk_at "gg"
  refine g_isXR ha (hd' (.refl _)) ec.x (hI "Hidden" b2 (by simp) h2) ?_
  walk_at "gg"
  rename_i l1 H1 n1 e1 s1
  refine g_isXR (s1 _ _ ha) (hd' s1) ec.x (hI "Stranger" b3 (by simp) h3) ?_
  walk_at "gg"
  refine g_isXR (s1 _ _ ha) (hd' s1) ec.x (hI "NoText" b4 (by simp) h4) ?_
  walk_at "gg"
  refine g_isXR (s1 _ _ ha) (hd' s1) ec.x (hI "More" b5 (by simp) h5) ?_
  walk_at "gg"
  rename_i l2 H2 n2 e2 s2 l3 H3 n3 e3 s3
  have s13 := s1.trans (s2.trans s3)
  refine g_isXR (s13 _ _ ha) (hd' s13) ec.x (hI "NoRows" b6 (by simp) h6) ?_
  walk_at "gg"
  refine g_isXR (s13 _ _ ha) (hd' s13) ec.x (hI "NoRow" b7 (by simp) h7) ?_
  walk_at "gg"
  rename_i l4 H4 n4 e4 s4 l5 H5 n5 e5 s5
  have s15 := s13.trans (s4.trans s5)
  have e5' : H5 l5 = some (.lst [V.bl b0, .bl b1, .bl b2, .bl b3, .bl b4, .bl b5, .bl b6, .bl b7]) := e5
  refine g_count (.of e5') rfl rfl ?_
  rw [hc]
  walk_at "gg"
  refine g_isXT (s15 _ _ ha) (hd' s15) ec.x ec.ve ?_
  walk_at "gg"
  refine g_ite (fun hb => ?_) (fun hb => ?_)
  · obtain ⟨r, k, hr, hk, hfs, q⟩ := q4 hb
    subst hfs
    walk_at "gg"
    refine g_fldX ?_
    walk_at "gg"
    refine ⟨a, He.ga K c, dd, _, r, rfl, s15 _ _ ha, s15 _ _ hdd, ec.x, hr, rfl, ?_⟩
    walk_at "gg"
    refine g_fldX ?_
    walk_at "gg"
    refine ⟨a, He.ga K c, dd, _, k, rfl, s15 _ _ ha, s15 _ _ hdd, ec.x, hk, rfl, ?_⟩
    walk_at "gg"
    rename_i t6 H6 n6 e6 s6
    exact q t6 H6 (s15.trans s6) e6
  · obtain ⟨hnm, x, hfs, q⟩ := q1 hb
    subst hfs
    walk_at "gg"
    rename_i l6 H6 n6 e6 s6
    have s16 := s15.trans s6
    refine ⟨l5, _, .bl true, j, .bl true, rfl, rfl, .of (s6 _ _ e5'), rfl, rfl, hj, rfl, hmin, ?_⟩
    walk_at "gg"
    refine g_ixL (.of e6) (v := .str s) (atI_of (by omega) (by rw [Int.toNat_natCast]; exact hs)) ?_
    walk_at "gg"
    refine g_fldX ?_
    walk_at "gg"
    refine ⟨a, He.ga K c, dd, [("name", .str x)], .str x, rfl, s16 _ _ ha, s16 _ _ hdd, ec.x, hnm, rfl, ?_⟩
    walk_at "gg"
    rename_i t7 H7 n7 e7 s7
    exact q t7 H7 (s16.trans s7) e7
def spReads : Sp := fun vs H Q _ => ∃ (t : Str), vs = [.str t] ∧ t.length ≤ 90000 ∧ (∀ (r j : Nat), readM t = .bad r j → ∀ (p : Addr) H', Same H H' → H' p = some (.tup [.str "text", .int r, .int j]) → Q (.ref p) H') ∧
  (∀ P, readM t = .ok P → lookM P = none → ∀ (p : Addr) (v : V) H', Same H H' → H' p = some (.tup [.str "", v]) → Tp H' v P.data → Q (.ref p) H') ∧
  ∀ P c x, readM t = .ok P → lookM P = some (c, x) → ∀ (p : Addr) H', Same H H' → H' p = some (.tup [.str (wordE c), .str x]) → Q (.ref p) H'
theorem pure_reads {K : PySem.W.Frag} {w : World} (er : Errs K) (et : ErrT K) : PureOk 1 spReads (t_law_reads K w (spReadTX K)) 5 := by
  refine ⟨fun vs H Q E ⟨_, e, _⟩ => by rw [e]; rfl, ?_⟩
  rintro vs H Q E ⟨t, rfl, htl, qw, qn, qe⟩
  show t_law_reads K w _ _ [some (.str t), none, none, none, none] H
  unfold t_law_reads
  walk_at "gg"
  refine ⟨t, rfl, htl, fun P hP hl v H1 tv s1 => ?_, fun P c x hP hl dd H1 hdn hdd s1 => ?_, fun r j hr dd H1 hdn hdd s1 => ?_⟩
  · walk_at "gg"
    refine .inl ⟨rfl, ?_⟩
    walk_at "gg"
    rename_i t2 H2 n2 e2 s2
    exact qn P hP hl t2 v H2 (s1.trans s2) e2 (tv.mono (Same.tk s2))
  · have hcls := lookM_cls hl
    have q' := qe P c x hP hl
    have ec : ErrC K c := by
      rcases hcls with rfl | rfl | rfl
      · exact er.s.t
      · exact er.s.h
      · exact er.s.s
    refine ⟨_, rfl, ec.lz, fun a ha => ?_⟩
    refine g_asg (g_var (v := .ref a) rfl (g_name rfl ?_))
    have s1a : Same H1 (upd H1 a (hxc a (He.ga K c) (some dd))) := same_upd ha
    have hdd' := s1a _ _ hdd
    rcases hcls with rfl | rfl | rfl
    · show t_readsR K w _ [some (.str t), some .non, some (.ref a), none, none] _
      exact reads_rest false true false false false false false false upd_same hdd' ec (by decide +kernel) (by decide +kernel) (by decide +kernel) (by decide +kernel) (by decide +kernel) (by decide +kernel) (by decide +kernel) (by decide +kernel) rfl 1 rfl (fun m z' h hz => by
          have hm : m < 1 := h
          match m, hm with
          | 0, _ => cases hz; rfl
          ) (wordE "Twice") (by decide +kernel) (fun h => by cases h) (fun _ => ⟨er.s.ti.nm, x, rfl, fun t H' s' e => q' t H' (s1.trans (s1a.trans s')) e⟩)
    · show t_readsR K w _ [some (.str t), some .non, some (.ref a), none, none] _
      exact reads_rest false false true false false false false false upd_same hdd' ec (by decide +kernel) (by decide +kernel) (by decide +kernel) (by decide +kernel) (by decide +kernel) (by decide +kernel) (by decide +kernel) (by decide +kernel) rfl 2 rfl (fun m z' h hz => by
          have hm : m < 2 := h
          match m, hm with
          | 0, _ => cases hz; rfl
          | 1, _ => cases hz; rfl
          ) (wordE "Hidden") (by decide +kernel) (fun h => by cases h) (fun _ => ⟨er.s.hi.nm, x, rfl, fun t H' s' e => q' t H' (s1.trans (s1a.trans s')) e⟩)
    · show t_readsR K w _ [some (.str t), some .non, some (.ref a), none, none] _
      exact reads_rest false false false true false false false false upd_same hdd' ec (by decide +kernel) (by decide +kernel) (by decide +kernel) (by decide +kernel) (by decide +kernel) (by decide +kernel) (by decide +kernel) (by decide +kernel) rfl 3 rfl (fun m z' h hz => by
          have hm : m < 3 := h
          match m, hm with
          | 0, _ => cases hz; rfl
          | 1, _ => cases hz; rfl
          | 2, _ => cases hz; rfl
          ) (wordE "Stranger") (by decide +kernel) (fun h => by cases h) (fun _ => ⟨er.s.si.nm, x, rfl, fun t H' s' e => q' t H' (s1.trans (s1a.trans s')) e⟩)
  · refine ⟨_, rfl, et.c.lz, fun a ha => ?_⟩
    refine g_asg (g_var (v := .ref a) rfl (g_name rfl ?_))
    have s1a : Same H1 (upd H1 a (hxc a (He.ga K "NoText") (some dd))) := same_upd ha
    have hdd' := s1a _ _ hdd
    show t_readsR K w _ [some (.str t), some .non, some (.ref a), none, none] _
    exact reads_rest false false false false true false false false upd_same hdd' et.c (by decide +kernel) (by decide +kernel) (by decide +kernel) (by decide +kernel) (by decide +kernel) (by decide +kernel) (by decide +kernel) (by decide +kernel) rfl 4 rfl (fun m z' h hz => by
          have hm : m < 4 := h
          match m, hm with
          | 0, _ => cases hz; rfl
          | 1, _ => cases hz; rfl
          | 2, _ => cases hz; rfl
          | 3, _ => cases hz; rfl
          ) "" (by decide +kernel) (fun _ => ⟨.int r, .int j, et.row, et.word, rfl, fun t H' s' e => qw r j hr t H' (s1.trans (s1a.trans s')) e⟩) (fun h => by cases h)

/-! ### the law's own reading against the program's -/
theorem Prog.bd.depth2 {P : Prog} (h : P.bd) : PyData.depth P.data < 149 := by
  have h1 := h.asked.good.lay.2
  have h2 : PyData.depthAll (P.fs.map Fn1.data) ≤ 37 := depAll_of fun d hd => by
    obtain ⟨f, hf, rfl⟩ := List.mem_map.mp hd
    have h3 := (h.fs f hf).body.good.lay.2
    have h4 := depth_strs f.things
    show PyData.depth (.tuple [.str f.name, .tuple (f.things.map .str), f.body.data]) ≤ 37
    simp only [PyData.depth, PyData.depthAll]
    omega
  show PyData.depth (.tuple [.tuple (P.fs.map Fn1.data), P.asked.data]) < 149
  simp only [PyData.depth, PyData.depthAll]
  omega
theorem wordE_ne {P : Prog} {c x : Str} (h : lookM P = some (c, x)) : wordE c ≠ "" ∧ wordE c ≠ "text" := by
  rcases lookM_cls h with rfl | rfl | rfl <;> exact ⟨by decide +kernel, by decide +kernel⟩
def spRightX : Sp := fun vs H Q _ => ∃ (t : Str), vs = [.str t] ∧ t.length ≤ 90000 ∧ ∀ H', Same H H' → Q (.bl true) H'
theorem pure_right {K : PySem.W.Frag} {w : World} : PureOk 1 spRightX (t_law_right K w spLawRead spToldX spReads) 4 := by
  refine ⟨fun vs H Q E ⟨_, e, _⟩ => by rw [e]; rfl, ?_⟩
  rintro vs H Q E ⟨t, rfl, htl, q⟩
  show t_law_right K w _ _ _ _ [some (.str t), none, none, none] H
  unfold t_law_right
  walk_at "gg"
  refine ⟨t, rfl, htl, fun r j hr p H1 s1 e1 => ?_, fun P hP p u H1 s1 e1 tu => ?_⟩
  · walk_at "gg"
    refine ⟨t, rfl, htl, fun r' j' hr' p2 H2 s2 e2 => ?_, fun P hP => (by rw [hr] at hP; cases hP), fun P c x hP => (by rw [hr] at hP; cases hP)⟩
    rw [hr] at hr'
    cases hr'
    have e12 := s2 _ _ e1
    walk_at "gg"
    refine g_eqLk (Tp.likeR (ds := [.str "text", .int r, .int j]) (n := 150) (.tup e2 (.cons (.str _) (.cons (.int _) (.one (.int _))))) (.tup e12 (.cons (.str _) (.cons (.int _) (.one (.int _))))) (by simp [PyData.depth, PyData.depthAll])) (Nat.le_refl 150) ?_
    walk_at "gg"
    refine g_isiBool (.int _) ?_
    rw [show isBoolM (.int (j : Int)) = false from rfl]
    walk_at "gg"
    exact q H2 (s1.trans s2)
  · have hbd := readM_bd hP
    have hdp := hbd.depth2
    walk_at "gg"
    refine ⟨_, P.data, rfl, tu.gq hbd.sh, fun hb => (by rw [builtM_true hbd] at hb; cases hb), fun _ => ⟨P, rfl, hbd, fun hl o H2 s2 e2 => ?_, fun c x hl o H2 s2 e2 => ?_⟩⟩
    · have e12 := s2 _ _ e1
      walk_at "gg"
      refine ⟨t, rfl, htl, fun r j hr => (by rw [hP] at hr; cases hr), fun P' hP' hl' p3 v H3 s3 e3 tv => ?_, fun P' c x hP' hl' => (by rw [hP] at hP'; cases hP'; rw [hl] at hl'; cases hl')⟩
      rw [hP] at hP'
      cases hP'
      have e13 := s3 _ _ e12
      walk_at "gg"
      refine g_eqLk (Tp.likeR (ds := [.str "", P.data]) (n := 150) (.tup e3 (.cons (.str _) (.one tv))) (.tup e13 (.cons (.str _) (.one (tu.mono (Same.tk (s2.trans s3)))))) (by simp only [PyData.depth, PyData.depthAll]; omega)) (Nat.le_refl 150) ?_
      walk_at "gg"
      exact q H3 (s1.trans (s2.trans s3))
    · obtain ⟨hw1, hw2⟩ := wordE_ne hl
      have e12 := s2 _ _ e1
      walk_at "gg"
      refine g_F (decide_eq_false hw1) ?_
      walk_at "gg"
      refine ⟨t, rfl, htl, fun r j hr => (by rw [hP] at hr; cases hr), fun P' hP' hl' => (by rw [hP] at hP'; cases hP'; rw [hl] at hl'; cases hl'), fun P' c' x' hP' hl' p3 H3 s3 e3 => ?_⟩
      rw [hP] at hP'
      cases hP'
      rw [hl] at hl'
      cases hl'
      have e23 := s3 _ _ e2
      walk_at "gg"
      refine g_eqLk (Tp.likeR (ds := [.str (wordE c), .str x]) (n := 150) (.tup e3 (.cons (.str _) (.one (.str _)))) (.tup e23 (.cons (.str _) (.one (.str _)))) (by simp [PyData.depth, PyData.depthAll])) (Nat.le_refl 150) ?_
      walk_at "gg"
      rw [decide_eq_false hw2]
      walk_at "gg"
      exact q H3 (s1.trans (s2.trans s3))

/-! ### texts of rows of words, by their length -/
def wl (ws : List Str) : Nat := (ws.map fun s => s.length + 1).sum
def wls (rs : List (List Str)) : Nat := (rs.map fun r => wl r + 1).sum
theorem join_sum {y : Str} {l : List Str} (hy : y.length = 1) : (Txt.join y l).length ≤ wl l := by
  have h1 : (Txt.join y l).length = (Txt.join y l).cps.toList.length := by simp [Str.length]
  rw [h1, join_tl]
  have h2 := joinL_len y.cps.toList (l.map fun s => s.cps.toList)
  rw [List.map_map, List.length_map] at h2
  have h4 : ((fun x : List Nat => x.length) ∘ fun s : Str => s.cps.toList) = fun s : Str => s.length := funext fun s => by simp [Str.length]
  have h5 : y.cps.toList.length = y.length := by simp [Str.length]
  rw [h4, h5, hy, Nat.mul_one] at h2
  have h6 : wl l = (l.map fun s : Str => s.length).sum + l.length := by
    unfold wl
    clear h1 h2
    induction l with
    | nil => rfl
    | cons a l ih =>
      rw [List.map_cons, List.map_cons, List.sum_cons, List.sum_cons, ih, List.length_cons]
      omega
  rw [h6]
  exact h2
theorem wl_app {a b : List Str} : wl (a ++ b) = wl a + wl b := by unfold wl; rw [List.map_append, List.sum_append_nat]
theorem wls_app {a b : List (List Str)} : wls (a ++ b) = wls a + wls b := by unfold wls; rw [List.map_append, List.sum_append_nat]
theorem wls_lines {rs : List (List Str)} : wl (rs.map (Txt.join " ")) ≤ wls rs := by
  unfold wl wls
  rw [List.map_map]
  induction rs with
  | nil => exact Nat.le_refl _
  | cons r rs ih =>
    rw [List.map_cons, List.map_cons, List.sum_cons, List.sum_cons]
    have := join_sum (y := " ") (l := r) (by decide)
    show (Txt.join " " r).length + 1 + _ ≤ _
    omega
theorem wl_mem {rs : List (List Str)} {r : List Str} (h : r ∈ rs) : wl r + 1 ≤ wls rs := by
  unfold wls
  induction rs with
  | nil => cases h
  | cons a rs ih =>
    rw [List.map_cons, List.sum_cons]
    rcases List.mem_cons.mp h with rfl | h
    · omega
    · have := ih h
      omega
theorem wl_le {k : Nat} {ws : List Str} (h : ∀ w ∈ ws, w.length ≤ k) : wl ws ≤ (k + 1) * ws.length := by
  unfold wl
  induction ws with
  | nil => exact Nat.zero_le _
  | cons a ws ih =>
    rw [List.map_cons, List.sum_cons, List.length_cons, Nat.mul_succ]
    have h1 := h a (by simp)
    have h2 := ih fun w hw => h w (by simp [hw])
    omega
/-- rows of few words, not too long together -/
structure Few (rs : List (List Str)) (n c k m : Nat) : Prop where
  ne : rs ≠ []
  rows : rs.length ≤ n
  row : ∀ r ∈ rs, r.length ≤ c ∧ ∀ w ∈ r, w.length ≤ k
  all : wls rs ≤ m
theorem Few.mono {rs : List (List Str)} {n c k m n' c' k' m' : Nat} (h : Few rs n c k m) (h1 : n ≤ n') (h2 : c ≤ c') (h3 : k ≤ k') (h4 : m ≤ m') : Few rs n' c' k' m' :=
  ⟨h.ne, Nat.le_trans h.rows h1, fun r hr => ⟨Nat.le_trans (h.row r hr).1 h2, fun w hw => Nat.le_trans ((h.row r hr).2 w hw) h3⟩, Nat.le_trans h.all h4⟩
def spTextW : Sp := fun vs H Q _ => ∃ (l : Addr) (us : List V) (rs : List (List Str)), vs = [.ref l] ∧ H l = some (.lst us) ∧ RowsAt H us rs ∧ Few rs 40 400 4500 89000 ∧ ∀ (s : Str) (H' : Hp), s.length ≤ 89000 → Same H H' → Q (.str s) H'
theorem pure_textW {K : PySem.W.Frag} {w : World} : PureOk 1 spTextW (t_law_text K w) 2 := by
  refine ⟨fun vs H Q E ⟨_, _, _, e, _⟩ => by rw [e]; rfl, ?_⟩
  rintro vs H Q E ⟨l, us, rs, rfl, el, hr, hF, q⟩
  show t_law_text K w _ [some (.ref l), none] H
  unfold t_law_text
  walk_at "go"
  refine g_seqL ?_
  walk_at "go"
  refine g_isL (.of el) fun dn hdn => ?_
  have hul := hr.1
  have hrl := hF.rows
  refine lc_any us.length (fun i acc H' => acc = ((rs.take i).map (Txt.join " ")).map V.str ∧ Same H H') hdn
    (fun H' _ s => ⟨by simp, s⟩) (fun i acc H' hi ⟨_, s⟩ => ⟨_, _, .of (s _ _ el), List.getElem?_eq_getElem hi⟩) (fun acc H' ⟨_, s⟩ => ⟨_, .of (s _ _ el), Nat.le_refl _⟩) ?_ ?_
  · rintro i x acc _ H8 hi hl ⟨rfl, s8⟩ hd8 ⟨rfl, hx⟩
    have hx' := hx _ (.of (s8 _ _ el))
    have hi' : i < rs.length := by omega
    obtain ⟨b, h1, h2⟩ := hr.2 i rs[i] (List.getElem?_eq_getElem hi')
    rw [hx'] at h1
    cases h1
    obtain ⟨h3, h4⟩ := hF.row rs[i] (List.getElem_mem hi')
    walk_at "go"
    refine ⟨rfl, ?_⟩
    walk_at "go"
    refine g_T rfl ?_
    walk_at "go"
    refine g_join (.of (s8 _ _ h2)) h4 h3 (by decide) ?_
    refine lc_step hd8 hl (by show _ < 16777216; omega) fun H10 e10 c10 => ?_
    exact ⟨by rw [List.take_add_one, List.getElem?_eq_getElem hi', List.map_append, List.map_append]; rfl, Same.chg s8 hdn c10⟩
  rintro acc H3 hd3 ⟨rfl, s3⟩
  rw [hul, List.take_length] at hd3
  refine g_join (.of hd3) (k := 89000) (m := 40) (fun s hs => by
    obtain ⟨r, hr', rfl⟩ := List.mem_map.mp hs
    have h1 := join_sum (y := " ") (l := r) (by decide)
    have h2 := wl_mem hr'
    have h3 := hF.all
    omega) (by rw [List.length_map]; exact hrl) (by decide) ?_
  have h1 := join_sum (y := "\n") (l := rs.map (Txt.join " ")) (by decide)
  have h2 := wls_lines (rs := rs)
  have h3 := hF.all
  exact q _ H3 (by omega) s3

/-! ### a text spoiled anywhere -/
theorem pick_str {K : PySem.W.Frag} {w : World} {H : Hp} {Q : VK} {a : Addr} {ss : List Str} {y : Int} (h : H a = some (.lst (ss.map V.str))) (h0 : 0 ≤ y) (h1 : y < ss.length) (q : ∀ s ∈ ss, Q (.str s) H) : rIxG K w (.ref a) (.int y) H Q := by
  obtain ⟨n, rfl⟩ : ∃ n : Nat, y = n := ⟨y.toNat, by omega⟩
  have hn : n < ss.length := by omega
  exact g_ixL (.of h) (v := .str ss[n]) (atI_of (by omega) (by rw [Int.toNat_natCast, List.getElem?_map, List.getElem?_eq_getElem hn]; rfl)) (q _ (List.getElem_mem hn))
def oddA : List Str := ["", "?", "=", ".", ":", ".a", ":a", "let", "when", "plus", "left", "0", "-0", "00", "-", "1", "5", "4"]
def oddB (z1 z2 z3 : Str) : List Str := [".abcdefgh", ".abcdefghi", ":A", "a", "abcdefghi", z1, z2, z3, "+1", "1_0"]
def oddC (s0 : Str) : List Str := ["number", "-7", "shut", "Plus", "..a", "::a", ".a.b", "1.0", s0]
def spOddW : Sp := fun vs H Q _ => ∃ (pen L wl : Addr) (ws : List Str), vs = [.ref pen, .ref wl] ∧ PenAt H pen L ∧ H wl = some (.lst (ws.map V.str)) ∧ ws ≠ [] ∧ ws.length ≤ 400 ∧ (∀ s ∈ ws, s.length ≤ 61) ∧ wl ≠ pen ∧
  ∀ (s : Str) H', s.length ≤ 4400 → PenAt H' pen L → Chg pen H H' → Q (.str s) H'

/-! ### rows spoiled by words: the lists -/
theorem RowsAt.take {H : Hp} {us : List V} {rs : List (List Str)} (h : RowsAt H us rs) (n : Nat) : RowsAt H (us.take n) (rs.take n) := by
  refine ⟨by rw [List.length_take, List.length_take, h.1], fun i r hi => ?_⟩
  have hlt : i < n := by
    have := (List.getElem?_eq_some_iff.mp hi).1
    rw [List.length_take] at this
    omega
  rw [List.getElem?_take_of_lt hlt] at hi ⊢
  exact h.2 i r hi
theorem RowsAt.drop {H : Hp} {us : List V} {rs : List (List Str)} (h : RowsAt H us rs) (n : Nat) : RowsAt H (us.drop n) (rs.drop n) := by
  refine ⟨by rw [List.length_drop, List.length_drop, h.1], fun i r hi => ?_⟩
  rw [List.getElem?_drop] at hi ⊢
  exact h.2 _ r hi
theorem RowsAt.app {H : Hp} {us vs : List V} {rs ss : List (List Str)} (h : RowsAt H us rs) (h' : RowsAt H vs ss) : RowsAt H (us ++ vs) (rs ++ ss) := by
  refine ⟨by rw [List.length_append, List.length_append, h.1, h'.1], fun i r hi => ?_⟩
  by_cases hlt : i < rs.length
  · rw [List.getElem?_append_left hlt] at hi
    rw [List.getElem?_append_left (by rw [h.1]; exact hlt)]
    exact h.2 i r hi
  · rw [List.getElem?_append_right (by omega)] at hi
    rw [List.getElem?_append_right (by rw [h.1]; omega), h.1]
    exact h'.2 _ r hi
theorem RowsAt.one {H : Hp} {a : Addr} {r : List Str} (h : H a = some (.lst (r.map V.str))) : RowsAt H [.ref a] [r] :=
  ⟨rfl, fun i r' hi => by
    have := (List.getElem?_eq_some_iff.mp hi).1
    have : i = 0 := by simpa using this
    subst this
    cases hi
    exact ⟨a, rfl, h⟩⟩
theorem not_pen {H : Hp} {pen L a : Addr} {r : List Str} (hP : PenAt H pen L) (h : H a = some (.lst (r.map V.str))) : a ≠ pen := by
  rintro rfl
  obtain ⟨ns, at_, rest, h1, _⟩ := hP
  rw [h] at h1
  cases r with
  | nil => cases h1
  | cons x r => cases h1
theorem RowsAt.pen {H H' : Hp} {pen L : Addr} {us : List V} {rs : List (List Str)} (h : RowsAt H us rs) (hP : PenAt H pen L) (c : Chg pen H H') : RowsAt H' us rs :=
  ⟨h.1, fun i r hi => by
    obtain ⟨l, h1, h2⟩ := h.2 i r hi
    exact ⟨l, h1, c _ _ (not_pen hP h2) h2⟩⟩
theorem RowsAt.same {H H' : Hp} {us : List V} {rs : List (List Str)} (h : RowsAt H us rs) (s : Same H H') : RowsAt H' us rs :=
  ⟨h.1, fun i r hi => by
    obtain ⟨l, h1, h2⟩ := h.2 i r hi
    exact ⟨l, h1, s _ _ h2⟩⟩
/-- a row made of another -/
structure Near (ws X : List Str) : Prop where
  len : X.length ≤ ws.length + 2
  mem : ∀ w ∈ X, w.length ≤ 4400
  all : wl X ≤ wl ws + 4401
theorem wl_cut (ws : List Str) (n : Nat) : wl (ws.take n) + wl (ws.drop n) = wl ws := by
  rw [← wl_app, List.take_append_drop]
/-! ### lists of words, lists of rows, by their bounds -/
/-- a list of words -/
def Wd (H : Hp) (a : Addr) (n m k : Nat) : Prop := ∃ X : List Str, H a = some (.lst (X.map V.str)) ∧ X.length ≤ n ∧ wl X ≤ m ∧ ∀ w ∈ X, w.length ≤ k
/-- a list of rows -/
def Gr (H : Hp) (a : Addr) (n m c k : Nat) : Prop := ∃ (us : List V) (rs : List (List Str)), H a = some (.lst us) ∧ RowsAt H us rs ∧ rs.length ≤ n ∧ wls rs ≤ m ∧ ∀ r ∈ rs, r.length ≤ c ∧ ∀ w ∈ r, w.length ≤ k
section
variable {H H' : Hp} {a pen L : Addr} {n m c k n' m' c' k' : Nat}
theorem Wd.same (h : Wd H a n m k) (s : Same H H') : Wd H' a n m k := by
  obtain ⟨X, e, h1, h2, h3⟩ := h
  exact ⟨X, s _ _ e, h1, h2, h3⟩
theorem Wd.pn (h : Wd H a n m k) (hP : PenAt H pen L) (c : Chg pen H H') : Wd H' a n m k := by
  obtain ⟨X, e, h1, h2, h3⟩ := h
  exact ⟨X, c _ _ (not_pen hP e) e, h1, h2, h3⟩
theorem Wd.mono (h : Wd H a n m k) (h1 : n ≤ n') (h2 : m ≤ m') (h3 : k ≤ k') : Wd H a n' m' k' := by
  obtain ⟨X, e, g1, g2, g3⟩ := h
  exact ⟨X, e, Nat.le_trans g1 h1, Nat.le_trans g2 h2, fun w hw => Nat.le_trans (g3 w hw) h3⟩
theorem Gr.ne (h : Gr H a n m c k) (hP : PenAt H pen L) : a ≠ pen := by
  rintro rfl
  obtain ⟨us, rs, e, hR, _⟩ := h
  obtain ⟨ns, p1, p2, h1, _⟩ := hP
  rw [e] at h1
  cases h1
  obtain ⟨l, h2, _⟩ := hR.2 1 ((rs[1]?).getD []) (by
    have h3 := hR.1
    rw [List.getElem?_eq_getElem (by rw [← h3]; show 1 < 3; decide)]
    rfl)
  cases h2
theorem Gr.same (h : Gr H a n m c k) (s : Same H H') : Gr H' a n m c k := by
  obtain ⟨us, rs, e, hR, h1, h2, h3⟩ := h
  exact ⟨us, rs, s _ _ e, hR.same s, h1, h2, h3⟩
theorem Gr.pn (h : Gr H a n m c k) (hP : PenAt H pen L) (ch : Chg pen H H') : Gr H' a n m c k := by
  have hn := h.ne hP
  obtain ⟨us, rs, e, hR, h1, h2, h3⟩ := h
  exact ⟨us, rs, ch _ _ hn e, hR.pen hP ch, h1, h2, h3⟩
theorem Gr.mono (h : Gr H a n m c k) (h1 : n ≤ n') (h2 : m ≤ m') (h3 : c ≤ c') (h4 : k ≤ k') : Gr H a n' m' c' k' := by
  obtain ⟨us, rs, e, hR, g1, g2, g3⟩ := h
  exact ⟨us, rs, e, hR, Nat.le_trans g1 h1, Nat.le_trans g2 h2, fun r hr => ⟨Nat.le_trans (g3 r hr).1 h3, fun w hw => Nat.le_trans ((g3 r hr).2 w hw) h4⟩⟩
end
theorem wl_part (X : List Str) (i j : Nat) : wl ((X.drop i).take j) ≤ wl X := by
  have h1 := wl_cut X i
  have h2 := wl_cut (X.drop i) j
  omega
theorem wls_cut (rs : List (List Str)) (n : Nat) : wls (rs.take n) + wls (rs.drop n) = wls rs := by
  rw [← wls_app, List.take_append_drop]
theorem wls_part (X : List (List Str)) (i j : Nat) : wls ((X.drop i).take j) ≤ wls X := by
  have h1 := wls_cut X i
  have h2 := wls_cut (X.drop i) j
  omega
section
variable {K : PySem.W.Frag} {H : Hp} {Q : VK} {a b : Addr} {n m c k n' m' c' k' : Nat}
theorem cutV_part (xs : List V) (lo hi : Option Int) : ∃ i j, cutV xs lo hi = (xs.drop i).take j := ⟨_, _, rfl⟩
theorem Wd.sl {lo hi : Option Int} (h : Wd H a n m k) (q : ∀ l H', H l = none → Same H H' → Wd H' l n m k → Q (.ref l) H') : rSlG K (.ref a) lo hi H Q := by
  obtain ⟨X, e, h1, h2, h3⟩ := h
  obtain ⟨i, j, hij⟩ := cutV_part (X.map V.str) lo hi
  refine g_slL (.of e) fun l H' nl el s => q l H' nl s ⟨(X.drop i).take j, by rw [el, hij, List.map_take, List.map_drop], ?_, ?_, fun w hw => h3 w (List.mem_of_mem_drop (List.mem_of_mem_take hw))⟩
  · rw [List.length_take, List.length_drop]; omega
  · have := wl_part X i j; omega
theorem Wd.add (h : Wd H a n m k) (h' : Wd H b n' m' k) (hl : n + n' ≤ 16777216) (q : ∀ l H', H l = none → Same H H' → Wd H' l (n + n') (m + m') k → Q (.ref l) H') : rAddG K (.ref a) (.ref b) H Q := by
  obtain ⟨X, e, h1, h2, h3⟩ := h
  obtain ⟨Y, e', h1', h2', h3'⟩ := h'
  refine g_addL e e' (by rw [List.length_map, List.length_map]; show _ ≤ 16777216; omega) fun l H' nl el s => q l H' nl s ⟨X ++ Y, by rw [el, List.map_append], by rw [List.length_append]; omega, by rw [wl_app]; omega, fun w hw => ?_⟩
  exact (List.mem_append.mp hw).elim (h3 w) (h3' w)
theorem Gr.sl {lo hi : Option Int} (h : Gr H a n m c k) (q : ∀ l H', H l = none → Same H H' → Gr H' l n m c k → Q (.ref l) H') : rSlG K (.ref a) lo hi H Q := by
  obtain ⟨us, rs, e, hR, h1, h2, h3⟩ := h
  obtain ⟨i, j, hij⟩ := cutV_part us lo hi
  refine g_slL (.of e) fun l H' nl el s => q l H' nl s ⟨(us.drop i).take j, (rs.drop i).take j, by rw [el, hij], ((hR.same s).drop i).take j, ?_, ?_, fun r hr => h3 r (List.mem_of_mem_drop (List.mem_of_mem_take hr))⟩
  · rw [List.length_take, List.length_drop]; omega
  · have := wls_part rs i j; omega
theorem Gr.add (h : Gr H a n m c k) (h' : Gr H b n' m' c k) (hl : n + n' ≤ 16777216) (q : ∀ l H', H l = none → Same H H' → Gr H' l (n + n') (m + m') c k → Q (.ref l) H') : rAddG K (.ref a) (.ref b) H Q := by
  obtain ⟨us, rs, e, hR, h1, h2, h3⟩ := h
  obtain ⟨us', rs', e', hR', h1', h2', h3'⟩ := h'
  have g1 := hR.1
  have g2 := hR'.1
  refine g_addL e e' (by show _ ≤ 16777216; omega) fun l H' nl el s => q l H' nl s ⟨us ++ us', rs ++ rs', el, (hR.same s).app (hR'.same s), by rw [List.length_append]; omega, by rw [wls_app]; omega, fun r hr => ?_⟩
  exact (List.mem_append.mp hr).elim (h3 r) (h3' r)
/-- a list of one row -/
theorem Gr.one {H' : Hp} {l : Addr} (h : Wd H a n m k) (s : Same H H') (e : H' l = some (.lst [.ref a])) : Gr H' l 1 (m + 1) n k := by
  obtain ⟨X, eX, h1, h2, h3⟩ := h
  refine ⟨[.ref a], [X], e, .one (s _ _ eX), Nat.le_refl _, by show wl X + 1 + 0 ≤ _; omega, fun r hr => ?_⟩
  rw [List.mem_singleton.mp hr]
  exact ⟨h1, h3⟩
end

/-! ### rows at their bounds: the base, wide ones -/
theorem isName_short {s : Str} (h : isName s) : s.length ≤ 8 := h.2.1
theorem fc {k : Nat} {a : Str} {l : List Str} (h : a.length ≤ k) (h' : ∀ w ∈ l, w.length ≤ k) : ∀ w ∈ a :: l, w.length ≤ k := fun w hw => (List.mem_cons.mp hw).elim (fun e => by rw [e]; exact h) (h' w)
theorem fn0 {k : Nat} : ∀ w ∈ ([] : List Str), w.length ≤ k := fun w hw => by cases hw
theorem Wd.mk {H : Hp} {a : Addr} {X : List Str} {n k : Nat} (e : H a = some (.lst (X.map V.str))) (h : X.length ≤ n) (hk : ∀ w ∈ X, w.length ≤ k) : Wd H a n ((k + 1) * n) k :=
  ⟨X, e, h, Nat.le_trans (wl_le hk) (Nat.mul_le_mul_left _ h), hk⟩
theorem Gr.nil {H : Hp} {l : Addr} {c k : Nat} (e : H l = some (.lst [])) : Gr H l 0 0 c k := ⟨[], [], e, ⟨rfl, fun i r h => by cases h⟩, Nat.le_refl _, Nat.le_refl _, fun r hr => by cases hr⟩
theorem rows_of {H : Hp} {n m k : Nat} : ∀ {as : List Addr}, (∀ a ∈ as, Wd H a n m k) → ∃ rs, RowsAt H (as.map V.ref) rs ∧ rs.length = as.length ∧ wls rs ≤ as.length * (m + 1) ∧ ∀ r ∈ rs, r.length ≤ n ∧ ∀ w ∈ r, w.length ≤ k
  | [], _ => ⟨[], ⟨rfl, fun i r h => by cases h⟩, rfl, Nat.zero_le _, fun r hr => by cases hr⟩
  | a :: as, h => by
    obtain ⟨X, eX, g1, g2, g3⟩ := h a List.mem_cons_self
    obtain ⟨rs, hR, h1, h2, h3⟩ := rows_of fun b hb => h b (List.mem_cons_of_mem _ hb)
    refine ⟨[X] ++ rs, (RowsAt.one eX).app hR, by rw [List.length_append, h1]; show 1 + as.length = as.length + 1; omega, ?_, fun r hr => ?_⟩
    · rw [wls_app, List.length_cons, Nat.succ_mul]
      show wl X + 1 + 0 + _ ≤ _
      omega
    · rcases List.mem_append.mp hr with hr | hr
      · rw [List.mem_singleton.mp hr]
        exact ⟨g1, g3⟩
      · exact h3 r hr
theorem Gr.mk {H : Hp} {l : Addr} {as : List Addr} {n m k : Nat} (e : H l = some (.lst (as.map V.ref))) (h : ∀ a ∈ as, Wd H a n m k) : Gr H l as.length (as.length * (m + 1)) n k := by
  obtain ⟨rs, hR, h1, h2, h3⟩ := rows_of h
  exact ⟨_, rs, e, hR, by omega, h2, h3⟩
theorem Gr.joined {H H' : Hp} {a b l : Addr} {us us' : List V} {n m c k n' m' : Nat} (h : Gr H a n m c k) (h' : Gr H b n' m' c k) (e : H a = some (.lst us)) (e' : H b = some (.lst us')) (el : H' l = some (.lst (us ++ us'))) (s : Same H H') : Gr H' l (n + n') (m + m') c k := by
  obtain ⟨us1, rs, e1, hR, h1, h2, h3⟩ := h
  obtain ⟨us2, rs', e2, hR', h1', h2', h3'⟩ := h'
  rw [e] at e1
  cases e1
  rw [e'] at e2
  cases e2
  exact ⟨us ++ us', rs ++ rs', el, (hR.same s).app (hR'.same s), by rw [List.length_append]; omega, by rw [wls_app]; omega, fun r hr => (List.mem_append.mp hr).elim (h3 r) (h3' r)⟩
def spBase : Sp := fun vs H Q _ => ∃ (pen L : Addr), vs = [.ref pen] ∧ PenAt H pen L ∧ ∀ (l : Addr) H', Gr H' l 4 3000 12 61 → (∃ us, H' l = some (.lst us) ∧ us ≠ []) → PenAt H' pen L → Chg pen H H' → Q (.ref l) H'
theorem pure_base {K : PySem.W.Frag} {w : World} : PureOk 1 spBase (t_law_base K w spNames spDraw) 3 := by
  refine ⟨fun vs H Q E ⟨_, _, e, _⟩ => by rw [e]; rfl, ?_⟩
  rintro vs H Q E ⟨pen, L, rfl, hP, q⟩
  show t_law_base K w _ _ _ [some (.ref pen), none, none] H
  unfold t_law_base
  walk_at "go"
  refine spNames_mk hP (by decide) (by decide) fun nl ss H1 hss hsn hsd hn1 en1 hP1 c1 => ?_
  have hsl : ss.length = 3 := by omega
  match ss, hsl with
  | [x, y, z], _ =>
  have hx := isName_short (hsn x (by simp))
  have hy := isName_short (hsn y (by simp))
  have hz := isName_short (hsn z (by simp))
  have nnp : nl ≠ pen := not_pen hP1 en1
  walk_at "go"
  refine g_draw (L := L) hP1 (by decide) (by decide) fun y1 H2 y10 y11 hP2 c2 => ?_
  have en2 := c2 _ _ nnp en1
  walk_at "go"
  have hnum : (numS y1).length ≤ 61 := numS_len (by
    have : y1.natAbs < 10 := by omega
    exact Nat.lt_of_lt_of_le this (by decide))
  refine g_strI (Nat.lt_of_le_of_lt (Nat.log2_le_self _) (by omega)) ?_
  walk_at "go"
  intro r1 H3 n3 e3 s3
  have en3 := s3 _ _ en2
  walk_at "go"
  intro r2 H4 n4 e4 s4
  walk_at "go"
  intro rl H5 n5 e5 s5
  have en5 := s5 _ _ (s4 _ _ en3)
  have er1 : H5 r1 = some (.lst (([x, ".a", "=", "plus", ".a", numS y1] : List Str).map V.str)) := s5 _ _ (s4 _ _ e3)
  have er2 : H5 r2 = some (.lst (([y, "=", "0"] : List Str).map V.str)) := s5 _ _ e4
  walk_at "go"
  refine g_tyl (.of e5) ?_
  walk_at "go"
  intro r3 H6 n6 e6 s6
  walk_at "go"
  have hP6 : PenAt H6 pen L := hP2.same (s3.trans (s4.trans (s5.trans s6)))
  refine g_append (s6 _ _ e5) (by show 2 < 16777216; decide) fun H7 e7 c7 => ?_
  have nl5 : rl ≠ pen := ((hP2.same (s3.trans s4)).ne n5).1.symm
  have nL5 : rl ≠ L := ((hP2.same (s3.trans s4)).ne n5).2.symm
  have hP7 : PenAt H7 pen L := hP6.chg c7 nl5.symm nL5.symm
  have n6' : r3 ≠ rl := (ne_of_none e5 n6).symm
  have hr1l : r1 ≠ rl := ne_of_none (s4 _ _ e3) n5
  have hr2l : r2 ≠ rl := ne_of_none e4 n5
  have w1 : Wd H7 r1 12 744 61 := Wd.mk (k := 61) (c7 _ _ hr1l (s6 _ _ er1)) (by show 6 ≤ 12; decide) (fc (by omega) (fc (by decide) (fc (by decide) (fc (by decide) (fc (by decide) (fc hnum fn0))))))
  have w2 : Wd H7 r2 12 744 61 := Wd.mk (k := 61) (c7 _ _ hr2l (s6 _ _ er2)) (by show 3 ≤ 12; decide) (fc (by omega) (fc (by decide) (fc (by decide) fn0)))
  have w3 : Wd H7 r3 12 744 61 := Wd.mk (k := 61) (X := [z, ".b", ".c", "=", "let", "1", ".d", "pair", ".b", ".d", ".c"]) (c7 _ _ n6' e6) (by show 11 ≤ 12; decide) (fc (by omega) (fc (by decide) (fc (by decide) (fc (by decide) (fc (by decide) (fc (by decide) (fc (by decide) (fc (by decide) (fc (by decide) (fc (by decide) (fc (by decide) fn0)))))))))))
  have g7 : Gr H7 rl 3 2235 12 61 := Gr.mk (as := [r1, r2, r3]) e7 (fun a ha => by
    simp only [List.mem_cons, List.not_mem_nil, or_false] at ha
    rcases ha with rfl | rfl | rfl
    · exact w1
    · exact w2
    · exact w3)
  have c07 : Chg pen H H7 := fun b o hb e => c7 _ _ (fun z => by
    have h1 := c2 _ _ hb (c1 _ _ hb e)
    have h2 := s4 _ _ (s3 _ _ h1)
    rw [z, n5] at h2
    cases h2) (s6 _ _ (s5 _ _ (s4 _ _ (s3 _ _ (c2 _ _ hb (c1 _ _ hb e))))))
  clear c1 c2 s3 s4 s5 s6 c7 e3 e4 e5 e6 e7 n3 n4 n5 n6 er1 er2 w1 w2 w3 hP2 hP1 hP6
  walk_at "go"
  refine g_draw (L := L) hP7 (by decide) (by decide) fun y2 H8 y20 y21 hP8 c8 => ?_
  have g8 := g7.pn hP7 c8
  refine ⟨y2, rfl, g8.sl fun l9 H9 n9 s9 g9 => ?_⟩
  have hP9 := hP8.same s9
  walk_at "go"
  refine g_draw (L := L) hP9 (by decide) (by decide) fun y3 H10 y30 y31 hP10 c10 => ?_
  have g10 := g9.pn hP9 c10
  refine ⟨_, _, rfl, rfl, by omega, by omega, by decide, fun z1 hz1 => ?_⟩
  have hz1' : z1.length ≤ 1 := Nat.le_trans hz1 (by show 1 * y3.toNat ≤ 1; omega)
  have h7 : ("7" : Str).length = 1 := by decide
  walk_at "go"
  refine g_addS (by rw [h7]; show _ ≤ 16777216; omega) ?_
  walk_at "go"
  intro r4 H11 n11 e11 s11
  walk_at "go"
  intro l12 H12 n12 e12 s12
  have w4 : Wd H12 r4 12 744 61 := Wd.mk (k := 61) (X := ["?", z1 ++ "7"]) (s12 _ _ e11) (by show 2 ≤ 12; decide) (fc (by decide) (fc (by rw [Str.lenCat, h7]; omega) fn0))
  have g12 : Gr H12 l12 1 745 12 61 := Gr.mk (as := [r4]) e12 (fun a ha => by rw [List.mem_singleton.mp ha]; exact w4)
  have g10' := g10.same (s11.trans s12)
  have hP12 := hP10.same (s11.trans s12)
  have c012 : Chg pen H H12 := c07.trans (c8.trans ((Chg.same s9).trans (c10.trans (.same (s11.trans s12)))))
  obtain ⟨us, rs, eu, hR, b1, b2, b3⟩ := g10'
  have hul := hR.1
  have g10' : Gr H12 l9 3 2235 12 61 := ⟨us, rs, eu, hR, b1, b2, b3⟩
  refine g_addL eu e12 (by show _ + 1 ≤ 16777216; omega) fun l13 H13 n13 e13 s13 => ?_
  exact q l13 H13 ((g10'.joined g12 eu e12 e13 s13).mono (by decide) (by decide) (by decide) (by decide)) ⟨_, e13, by simp⟩ (hP12.same s13) (c012.trans (.same s13))

/-! ### wide parts -/
def spWide (m : Nat) : Sp := fun vs H Q _ => ∃ (k : Nat), vs = [.int k] ∧ 1 ≤ k ∧ k ≤ 64 ∧ k < 2 ^ m ∧ ∀ (l : Addr) H', Wd H' l k (5 * k) 4 → Same H H' → Q (.ref l) H'
theorem pure_wide {K : PySem.W.Frag} {w : World} {m : Nat} : PureOk 1 (spWide (m + 1)) (t_law_wide K w (spWide m)) 2 := by
  refine ⟨fun vs H Q E ⟨_, e, _⟩ => by rw [e]; rfl, ?_⟩
  rintro vs H Q E ⟨k, rfl, hk1, hk64, hkm, q⟩
  show t_law_wide K w _ _ [some (.int k), none] H
  unfold t_law_wide
  rw [Nat.pow_succ] at hkm
  walk_at "go"
  by_cases h3 : k < 3
  · refine g_T (decide_eq_true (by omega)) ?_
    walk_at "go"
    by_cases h1 : k = 1
    · subst h1
      refine g_T (decide_eq_true (by omega)) ?_
      walk_at "go"
      intro l H1 n1 e1 s1
      exact q l H1 (Wd.mk (X := ["1"]) e1 (by decide) (fc (by decide) fn0)) s1
    · have h2 : k = 2 := by omega
      subst h2
      refine g_F (decide_eq_false (by omega)) ?_
      walk_at "go"
      intro l H1 n1 e1 s1
      exact q l H1 (Wd.mk (X := ["left", "1"]) e1 (by decide) (fc (by decide) (fc (by decide) fn0))) s1
  · refine g_F (decide_eq_false (by omega)) ?_
    walk_at "go"
    refine g_divI ⟨by decide, by decide +kernel⟩ ?_
    obtain ⟨a, ha⟩ : ∃ a : Nat, a = (k - 1) / 2 := ⟨_, rfl⟩
    have hda : ((k : Int) - 1) / 2 = (a : Int) := by omega
    rw [hda]
    walk_at "go"
    intro l1 H1 n1 e1 s1
    walk_at "go"
    refine ⟨a, rfl, by omega, by omega, by omega, fun l2 H2 w2 s2 => ?_⟩
    have w1 : Wd H2 l1 1 5 4 := Wd.mk (n := 1) (k := 4) (X := ["pair"]) (s2 _ _ e1) (by decide) (fc (by decide) fn0)
    refine w1.add w2 (by omega) fun l3 H3 n3 s3 w3 => ?_
    walk_at "go"
    have hdb : (k : Int) - 1 - (a : Int) = ((k - 1 - a : Nat) : Int) := by omega
    rw [hdb]
    refine ⟨k - 1 - a, rfl, by omega, by omega, by omega, fun l4 H4 w4 s4 => ?_⟩
    refine (w3.same s4).add w4 (by omega) fun l5 H5 n5 s5 w5 => ?_
    exact q l5 H5 (w5.mono (by omega) (by omega) (Nat.le_refl _)) (s1.trans (s2.trans (s3.trans (s4.trans s5))))

/-! ### great rows -/
theorem lc_drawn {H1 : Hp} {g : TG} {te : TE} {vs : List Nat} {σ : L2.St} {n : Nat} {Qd : Addr → Hp → Prop} {pen L : Addr} (hl : n ≤ 100000) (hP : PenAt H1 pen L) (F : V → Hp → Prop) (hF : ∀ y H H', Tk H H' → F y H → F y H')
    (hs : ∀ (i : Nat) H' (Nx : V → Hp → Prop), i < n → PenAt H' pen L → Chg pen H1 H' → (∀ y H4, PenAt H4 pen L → Chg pen H' H4 → F y H4 → Nx y H4) → g (.int (0 + (i : Int))) (wipe σ vs) H' fun σ2 H2 => wipe σ2 vs = wipe σ vs ∧ te σ2 H2 Nx)
    (hd : ∀ D (ys : List V) H', Fr H1 D → H' D = some (.lst ys) → ys.length = n → (∀ y ∈ ys, F y H') → PenAt H' pen L → Chg pen H1 H' → Qd D H') : LcR (Itr 0 n) g tYes te vs σ H1 Qd := by
  intro D hD
  have hn := hP.ne hD
  refine lc_any n (fun i acc H' => acc.length = i ∧ (∀ y ∈ acc, F y H') ∧ PenAt H' pen L ∧ Chg pen H1 H') hD (fun H' _ s => ⟨rfl, by simp, hP.same s, .same s⟩)
    (fun i acc H' hi _ => hi) (fun acc H' _ => Nat.le_refl _) ?_ ?_
  · rintro i x acc H3 H' hi hla ⟨ha, hf, p2, c2⟩ hd2 ⟨rfl, rfl⟩
    refine hs i _ _ (by omega) p2 c2 fun y H4 p4 c4 f4 => ?_
    have ed4 := c4 _ _ hn.1.symm hd2
    refine lc_step ed4 hla (by show _ < 16777216; omega) fun H5 e5 c5 => ?_
    have k5 : Tk H4 H5 := c5.tkl ed4
    have k4 := p2.tk c4
    refine ⟨by rw [List.length_append, ha]; rfl, fun z hz => ?_, p4.chg c5 hn.1 hn.2, (c2.trans c4).fresh hD c5⟩
    rcases List.mem_append.mp hz with hz | hz
    · exact hF _ _ _ (k4.trans k5) (hf z hz)
    · rw [List.mem_singleton.mp hz]
      exact hF _ _ _ k5 f4
  · rintro acc H' hd2 ⟨ha, hf, p2, c2⟩
    exact hd D acc H' hD hd2 ha hf p2 c2
theorem strs_of {k : Nat} : ∀ {ys : List V}, (∀ y ∈ ys, ∃ s : Str, y = .str s ∧ s.length ≤ k) → ∃ X : List Str, ys = X.map V.str ∧ X.length = ys.length ∧ ∀ w ∈ X, w.length ≤ k
  | [], _ => ⟨[], rfl, rfl, fn0⟩
  | y :: ys, h => by
    obtain ⟨s, rfl, hs⟩ := h _ List.mem_cons_self
    obtain ⟨X, rfl, h2, h3⟩ := strs_of fun z hz => h z (List.mem_cons_of_mem _ hz)
    exact ⟨s :: X, rfl, by rw [List.length_cons, List.length_cons, h2], fc hs h3⟩
def spGreat : Sp := fun vs H Q _ => ∃ (pen L : Addr), vs = [.ref pen] ∧ PenAt H pen L ∧ ∀ (l : Addr) H', Wd H' l 72 4700 63 → PenAt H' pen L → Chg pen H H' → Q (.ref l) H'
theorem pure_great {K : PySem.W.Frag} {w : World} : PureOk 1 spGreat (t_law_great K w spDraw (spWide 7)) 7 := by
  refine ⟨fun vs H Q E ⟨_, _, e, _⟩ => by rw [e]; rfl, ?_⟩
  rintro vs H Q E ⟨pen, L, rfl, hP, q⟩
  show t_law_great K w _ _ _ [some (.ref pen), none, none, none, none, none, none] H
  unfold t_law_great
  walk_at "go"
  refine g_draw (L := L) hP (by decide) (by decide) fun y H1 y0 y1 hP1 c1 => ?_
  walk_at "go"
  by_cases h0 : y = 0
  · refine g_T (decide_eq_true h0) ?_
    walk_at "go"
    refine g_draw (L := L) hP1 (by decide) (by decide) fun y2 H2 y20 y21 hP2 c2 => ?_
    obtain ⟨a, rfl⟩ : ∃ a : Nat, y2 = a := ⟨y2.toNat, by omega⟩
    have ha : (57 : Int) + (a : Int) = ((57 + a : Nat) : Int) := by omega
    walk_at "go"
    rw [ha]
    refine ⟨57 + a, rfl, by omega, by omega, by show _ < 128; omega, fun l2 H3 w2 s2 => ?_⟩
    walk_at "go"
    intro l3 H4 n4 e4 s4
    walk_at "go"
    have hb : ((57 + a : Nat) : Int) - 2 = ((55 + a : Nat) : Int) := by omega
    rw [hb]
    refine ⟨55 + a, rfl, by omega, by omega, by show _ < 128; omega, fun l5 H5 w5 s5 => ?_⟩
    have w4 : Wd H5 l3 4 20 4 := Wd.mk (n := 4) (k := 4) (X := ["let", "1", ".e", "1"]) (s5 _ _ e4) (by decide) (fc (by decide) (fc (by decide) (fc (by decide) (fc (by decide) fn0))))
    refine w4.add w5 (by omega) fun l6 H6 n6 s6 w6 => ?_
    walk_at "go"
    intro l7 H7 n7 e7 s7
    have s27 : Same H3 H7 := s4.trans (s5.trans (s6.trans s7))
    have hP7 := hP2.same (s2.trans s27)
    have nl7 : l7 ≠ pen := ((hP2.same (s2.trans (s4.trans (s5.trans s6)))).ne n7).1.symm
    walk_at "go"
    refine g_draw (L := L) hP7 (by decide) (by decide) fun y3 H8 y30 y31 hP8 c8 => ?_
    have e8 := c8 _ _ nl7 e7
    have c08 : Chg pen H H8 := c1.trans (c2.trans ((Chg.same (s2.trans s27)).trans c8))
    have wa := ((w2.same s27).pn hP7 c8)
    have wb := ((w6.same s7).pn hP7 c8)
    by_cases h3 : y3 = 0
    · subst h3
      refine g_ixL (.of e8) (v := .ref l2) rfl ?_
      exact q l2 H8 (wa.mono (by omega) (by omega) (by decide)) hP8 c08
    · have h4 : y3 = 1 := by omega
      subst h4
      refine g_ixL (.of e8) (v := .ref l6) rfl ?_
      exact q l6 H8 (wb.mono (by omega) (by omega) (by decide)) hP8 c08
  refine g_F (decide_eq_false h0) ?_
  walk_at "go"
  by_cases h1 : y = 1
  · refine g_T (decide_eq_true h1) ?_
    walk_at "go"
    refine g_draw (L := L) hP1 (by decide) (by decide) fun y2 H2 y20 y21 hP2 c2 => ?_
    walk_at "go"
    refine g_isrng (by omega) (by omega) ?_
    have hn : (10 + y2).toNat ≤ 13 := by omega
    generalize (10 + y2).toNat = n at hn
    refine lc_drawn (by omega) hP2 (fun y _ => ∃ s : Str, y = .str s ∧ s.length ≤ 5) (fun y H H' _ h => h) ?_ ?_
    · intro i H3 Nx hi hP3 c3 hN
      walk_at "go"
      refine ⟨rfl, ?_⟩
      walk_at "go"
      intro l4 H4 n4 e4 s4
      have np4 : l4 ≠ pen := (hP3.ne n4).1.symm
      walk_at "go"
      refine g_draw (L := L) (hP3.same s4) (by decide) (by decide) fun y3 H5 y30 y31 hP5 c5 => ?_
      refine pick_str (ss := ["left", "right"]) (c5 _ _ np4 e4) y30 y31 fun s hs => ?_
      refine hN _ H5 hP5 ((Chg.same s4).trans c5) ⟨s, rfl, ?_⟩
      simp only [List.mem_cons, List.not_mem_nil, or_false] at hs
      rcases hs with rfl | rfl <;> decide
    intro D ys H3 nD eD hyl hys hP3 c3
    obtain ⟨X, rfl, hXl, hX⟩ := strs_of hys
    have wD : Wd H3 D 13 78 5 := Wd.mk (n := 13) (k := 5) eD (by rw [hXl, hyl]; exact hn) hX
    walk_at "go"
    intro l4 H4 n4 e4 s4
    have w4 : Wd H4 l4 1 6 5 := Wd.mk (n := 1) (k := 5) (X := ["1"]) e4 (by decide) (fc (by decide) fn0)
    refine (wD.same s4).add w4 (by decide) fun f H5 n5 s5 wf => ?_
    walk_at "go"
    intro l6 H6 n6 e6 s6
    walk_at "go"
    refine (wf.same s6).sl fun l7 H7 n7 s7 w7 => ?_
    have w6 : Wd H7 l6 3 18 5 := Wd.mk (n := 3) (k := 5) (X := ["let", "1", ".e"]) (s7 _ _ e6) (by decide) (fc (by decide) (fc (by decide) (fc (by decide) fn0)))
    refine w6.add w7 (by decide) fun l8 H8 n8 s8 w8 => ?_
    walk_at "go"
    intro l9 H9 n9 e9 s9
    have w9 : Wd H9 l9 1 6 5 := Wd.mk (n := 1) (k := 5) (X := [".e"]) e9 (by decide) (fc (by decide) fn0)
    refine (w8.same s9).add w9 (by decide) fun g1 H10 n10 s10 wg1 => ?_
    walk_at "go"
    intro l11 H11 n11 e11 s11
    walk_at "go"
    have s510 := s6.trans (s7.trans (s8.trans (s9.trans (s10.trans s11))))
    refine (wf.same s510).sl fun l12 H12 n12 s12 w12 => ?_
    have w11 : Wd H12 l11 4 24 5 := Wd.mk (n := 4) (k := 5) (X := ["let", "1", ".e", "1"]) (s12 _ _ e11) (by decide) (fc (by decide) (fc (by decide) (fc (by decide) (fc (by decide) fn0))))
    refine w11.add w12 (by decide) fun l13 H13 n13 s13 w13 => ?_
    walk_at "go"
    intro l14 H14 n14 e14 s14
    have w14 : Wd H14 l14 1 6 5 := Wd.mk (n := 1) (k := 5) (X := [".e"]) e14 (by decide) (fc (by decide) fn0)
    refine (w13.same s14).add w14 (by decide) fun g2 H15 n15 s15 wg2 => ?_
    walk_at "go"
    intro l16 H16 n16 e16 s16
    have s1016 := s11.trans (s12.trans (s13.trans (s14.trans (s15.trans s16))))
    have s516 := s510.trans (s12.trans (s13.trans (s14.trans (s15.trans s16))))
    have s316 := s4.trans (s5.trans s516)
    have hP16 := hP3.same s316
    have np : l16 ≠ pen := by
      have := s4.trans (s5.trans (s510.trans (s12.trans (s13.trans (s14.trans s15)))))
      exact ((hP3.same this).ne n16).1.symm
    walk_at "go"
    refine g_draw (L := L) hP16 (by decide) (by decide) fun y3 H17 y30 y31 hP17 c17 => ?_
    have e17 := c17 _ _ np e16
    have c017 : Chg pen H H17 := c1.trans (c2.trans (c3.trans ((Chg.same s316).trans c17)))
    have v1 := ((wf.same s516).pn hP16 c17).mono (n' := 72) (m' := 4700) (k' := 63) (by decide) (by decide) (by decide)
    have v2 := ((wg1.same s1016).pn hP16 c17).mono (n' := 72) (m' := 4700) (k' := 63) (by decide) (by decide) (by decide)
    have v3 := ((wg2.same s16).pn hP16 c17).mono (n' := 72) (m' := 4700) (k' := 63) (by decide) (by decide) (by decide)
    have hy : y3 = 0 ∨ y3 = 1 ∨ y3 = 2 := by omega
    rcases hy with rfl | rfl | rfl
    · refine g_ixL (.of e17) (v := .ref f) rfl ?_
      exact q f H17 v1 hP17 c017
    · refine g_ixL (.of e17) (v := .ref g1) rfl ?_
      exact q g1 H17 v2 hP17 c017
    · refine g_ixL (.of e17) (v := .ref g2) rfl ?_
      exact q g2 H17 v3 hP17 c017
  refine g_F (decide_eq_false h1) ?_
  walk_at "go"
  by_cases h2 : y = 2
  · refine g_T (decide_eq_true h2) ?_
    walk_at "go"
    refine g_draw (L := L) hP1 (by decide) (by decide) fun y2 H2 y20 y21 hP2 c2 => ?_
    walk_at "go"
    have hnum : (numS (3 + y2)).length ≤ 61 := numS_len (by
      have : (3 + y2).natAbs < 10 := by omega
      exact Nat.lt_of_lt_of_le this (by decide))
    refine g_strI (Nat.lt_of_le_of_lt (Nat.log2_le_self _) (by omega)) ?_
    walk_at "go"
    intro l3 H3 n3 e3 s3
    have w3 : Wd H3 l3 2 128 63 := Wd.mk (n := 2) (k := 63) (X := ["let", numS (3 + y2)]) e3 (by show 2 ≤ 2; decide) (fc (by decide) (fc (by omega) fn0))
    have hP3 := hP2.same s3
    have c03 : Chg pen H H3 := c1.trans (c2.trans (.same s3))
    walk_at "go"
    refine g_isrng (by omega) (by omega) ?_
    have hn : (3 + y2).toNat ≤ 5 := by omega
    generalize 3 + y2 = mv at hn
    generalize mv.toNat = n at hn
    refine for_any n (fun i σ H' => ∃ (l : Addr) (x4 : Option V), σ = [some (.ref pen), some (.int y), some (.int mv), some (.ref l), x4, none, none] ∧ Wd H' l (2 + 2 * i) (128 + 128 * i) 63 ∧ PenAt H' pen L ∧ Chg pen H H') ⟨l3, none, rfl, w3, hP3, c03⟩ (fun i σ H' hi _ => hi) (fun σ H' _ => Nat.le_refl _) ?_ ?_
    · rintro i x σ _ H4 hi ⟨l, x4, rfl, wl4, hP4, c04⟩ ⟨rfl, rfl⟩
      have h5 : i < 5 := by omega
      obtain ⟨ch, hch⟩ : ∃ ch, ("abcde" : Str).cps.toList[i]? = some ch := ⟨_, List.getElem?_eq_getElem (by show i < 5; exact h5)⟩
      walk_at "go"
      refine g_ixS (by decide) (c := ch) (atI_of (by omega) (by rw [show (0 + (i : Int)).toNat = i from by omega]; exact hch)) ?_
      refine g_addS (by show 1 + 1 ≤ 16777216; decide) ?_
      walk_at "go"
      intro l5 H5 n5 e5 s5
      have w5 : Wd H5 l5 2 128 63 := Wd.mk (n := 2) (k := 63) (X := [("." : Str) ++ (⟨#[ch]⟩ : Str), "1"]) e5 (by show 2 ≤ 2; decide) (fc (by rw [Str.lenCat]; show 1 + 1 ≤ 63; decide) (fc (by decide) fn0))
      refine (wl4.same s5).add w5 (by omega) fun l6 H6 n6 s6 w6 => ?_
      walk_at "go"
      exact ⟨l6, _, rfl, w6.mono (by omega) (by omega) (Nat.le_refl _), hP4.same (s5.trans s6), c04.trans (.same (s5.trans s6))⟩
    · rintro σ H4 ⟨l, x4, rfl, wl4, hP4, c04⟩
      walk_at "go"
      intro l5 H5 n5 e5 s5
      have w5 : Wd H5 l5 1 64 63 := Wd.mk (n := 1) (k := 63) (X := ["2"]) e5 (by decide) (fc (by decide) fn0)
      refine (wl4.same s5).add w5 (by omega) fun l6 H6 n6 s6 w6 => ?_
      exact q l6 H6 (w6.mono (by omega) (by omega) (Nat.le_refl _)) (hP4.same (s5.trans s6)) (c04.trans (.same (s5.trans s6)))
  refine g_F (decide_eq_false h2) ?_
  walk_at "go"
  by_cases h3 : y = 3
  · refine g_T (decide_eq_true h3) ?_
    walk_at "go"
    intro l2 H2 n2 e2 s2
    have np2 : l2 ≠ pen := (hP1.ne n2).1.symm
    walk_at "go"
    refine g_draw (L := L) (hP1.same s2) (by decide) (by decide) fun y2 H3 y20 y21 hP3 c3 => ?_
    refine pick_str (ss := ["", "-"]) (c3 _ _ np2 e2) y20 y21 fun sg hsg => ?_
    have hsl : sg.length ≤ 1 := by
      simp only [List.mem_cons, List.not_mem_nil, or_false] at hsg
      rcases hsg with rfl | rfl <;> decide
    walk_at "go"
    refine g_draw (L := L) hP3 (by decide) (by decide) fun y3 H4 y30 y31 hP4 c4 => ?_
    obtain ⟨d, rfl⟩ : ∃ d : Nat, y3 = d := ⟨y3.toNat, by omega⟩
    obtain ⟨ch, hch⟩ : ∃ ch, ("123456789" : Str).cps.toList[d]? = some ch := ⟨_, List.getElem?_eq_getElem (by show d < 9; omega)⟩
    refine g_ixS (by decide) (c := ch) (atI_of (by omega) (by rw [Int.toNat_natCast]; exact hch)) ?_
    walk_at "go"
    refine g_draw (L := L) hP4 (by decide) (by decide) fun y4 H5 y40 y41 hP5 c5 => ?_
    walk_at "go"
    refine ⟨_, _, rfl, rfl, by omega, by omega, by show (1 : Nat) ≤ 100; decide, fun z hz => ?_⟩
    have hz' : z.length ≤ 61 := Nat.le_trans hz (by show 1 * (59 + y4).toNat ≤ 61; omega)
    refine g_addS (by show _ ≤ 16777216; omega) ?_
    walk_at "go"
    intro l6 H6 n6 e6 s6
    have w6 : Wd H6 l6 72 4700 63 := (Wd.mk (n := 1) (k := 63) (X := [sg ++ z]) e6 (by show 1 ≤ 1; decide) (fc (by rw [Str.lenCat]; omega) fn0)).mono (by decide) (by decide) (Nat.le_refl _)
    exact q l6 H6 w6 (hP5.same s6) (c1.trans ((Chg.same s2).trans (c3.trans (c4.trans (c5.trans (.same s6))))))
  refine g_F (decide_eq_false h3) ?_
  walk_at "go"
  intro l2 H2 n2 e2 s2
  have w2 : Wd H2 l2 1 5 4 := Wd.mk (n := 1) (k := 4) (X := ["1"]) e2 (by decide) (fc (by decide) fn0)
  walk_at "go"
  refine g_isrng (by decide) (by decide) ?_
  refine for_any 5 (fun i σ H' => ∃ (l : Addr) (x4 : Option V) (X : List Str), σ = [some (.ref pen), some (.int y), none, none, x4, none, some (.ref l)] ∧ H' l = some (.lst (X.map V.str)) ∧ X.length + 1 = 2 ^ (i + 1) ∧ (∀ w ∈ X, w.length ≤ 63) ∧ PenAt H' pen L ∧ Chg pen H H') ⟨l2, none, ["1"], rfl, e2, rfl, fc (by decide) fn0, hP1.same s2, c1.trans (.same s2)⟩ (fun i σ H' hi _ => hi) (fun σ H' _ => Nat.le_refl _) ?_ ?_
  · rintro i x σ _ H4 hi ⟨l, x4, X, rfl, eX, hXl, hX, hP4, c04⟩ ⟨rfl, rfl⟩
    have h64 : 2 ^ (i + 1) ≤ 2 ^ 5 := Nat.pow_le_pow_right (by decide) (by omega)
    have h32 : (2 : Nat) ^ 5 = 32 := by decide
    walk_at "go"
    intro l5 H5 n5 e5 s5
    walk_at "go"
    have eX5 := s5 _ _ eX
    refine g_addL e5 eX5 (by rw [List.length_map]; show 1 + _ ≤ 16777216; omega) fun l6 H6 n6 e6 s6 => ?_
    have eX6 := s6 _ _ eX5
    walk_at "go"
    refine g_addL e6 eX6 (by rw [List.length_append, List.length_map]; show 1 + _ + _ ≤ 16777216; omega) fun l7 H7 n7 e7 s7 => ?_
    walk_at "go"
    have s57 := s5.trans (s6.trans s7)
    refine ⟨l7, _, [("plus" : Str)] ++ X ++ X, rfl, ?_, ?_, ?_, hP4.same s57, c04.trans (.same s57)⟩
    · rw [e7, List.map_append, List.map_append]
      rfl
    · rw [List.length_append, List.length_append, Nat.pow_succ]
      show 1 + X.length + X.length + 1 = _
      omega
    · intro w hw
      rcases List.mem_append.mp hw with hw | hw
      · exact (fc (by decide) hX : ∀ w ∈ ("plus" : Str) :: X, w.length ≤ 63) w hw
      · exact hX w hw
  · rintro σ H4 ⟨l, x4, X, rfl, eX, hXl, hX, hP4, c04⟩
    have h64 : (2 : Nat) ^ (5 + 1) = 64 := by decide
    have nlp : l ≠ pen := not_pen hP4 eX
    walk_at "go"
    refine g_lenL (.of eX) ?_
    rw [List.length_map]
    walk_at "go"
    refine g_draw (L := L) hP4 (by omega) (by omega) fun y2 H5 y20 y21 hP5 c5 => ?_
    have w5 : Wd H5 l 63 (64 * 63) 63 := Wd.mk (n := 63) (k := 63) (c5 _ _ nlp eX) (by omega) hX
    walk_at "go"
    refine w5.sl fun l6 H6 n6 s6 w6 => ?_
    exact q l6 H6 (w6.mono (by decide) (by decide) (Nat.le_refl _)) (hP5.same s6) (c04.trans (c5.trans (.same s6)))

/-! ### rows at their bounds: rows changed -/
theorem Gr.at {H : Hp} {a : Addr} {us : List V} {n m c k : Nat} {y : Int} (h : Gr H a n m c k) (e : H a = some (.lst us)) (h0 : 0 ≤ y) (h1 : y < us.length) : ∃ (l : Addr) (X : List Str), atI us y = some (.ref l) ∧ H l = some (.lst (X.map V.str)) ∧ X.length ≤ c ∧ wl X ≤ m ∧ ∀ w ∈ X, w.length ≤ k := by
  obtain ⟨us', rs, e', hR, g1, g2, g3⟩ := h
  rw [e] at e'
  cases e'
  obtain ⟨i, rfl⟩ : ∃ i : Nat, y = i := ⟨y.toNat, by omega⟩
  have hul := hR.1
  obtain ⟨X, hX⟩ : ∃ X, rs[i]? = some X := ⟨_, List.getElem?_eq_getElem (by omega)⟩
  obtain ⟨l, h2, h3⟩ := hR.2 i X hX
  have hm := List.mem_of_getElem? hX
  have hw := wl_mem hm
  exact ⟨l, X, atI_of (by omega) (by rw [Int.toNat_natCast]; exact h2), h3, (g3 X hm).1, by omega, (g3 X hm).2⟩
theorem first_at {k : Str} : ∀ {X : List Str}, k ∈ X → ∃ j : Nat, X[j]? = some k ∧ ∀ (m : Nat) (s : Str), m < j → X[m]? = some s → s ≠ k
  | [], h => by cases h
  | x :: X, h => by
    by_cases hx : x = k
    · exact ⟨0, by rw [hx]; rfl, fun m s hm _ => absurd hm (Nat.not_lt_zero m)⟩
    · obtain ⟨j, h1, h2⟩ := first_at ((List.mem_cons.mp h).resolve_left fun z => hx z.symm)
      refine ⟨j + 1, h1, fun m s hm hs => ?_⟩
      cases m with
      | zero => cases hs; exact hx
      | succ m => exact h2 m s (by omega) hs
/-- lists of rows to choose from -/
def So (H : Hp) (a : Addr) (n m c k : Nat) : Prop := ∃ vs : List V, H a = some (.lst vs) ∧ vs.length = k ∧ ∀ v ∈ vs, ∃ l : Addr, v = .ref l ∧ l ≠ a ∧ Gr H l n m c 63
section
variable {H H' : Hp} {a b l pen L : Addr} {n m c k j : Nat}
theorem Gr.new (g : Gr H l n m c k) (h : H a = none) : l ≠ a := by
  rintro rfl
  obtain ⟨us, rs, e, _⟩ := g
  rw [h] at e
  cases e
theorem Chg.was (ch : Chg pen H H') (hP : PenAt H' pen L) (h : H' a = none) : H a = none := by
  have hn := (hP.ne h).1
  cases e : H a with
  | none => rfl
  | some o =>
    have z := ch _ _ (fun z => hn z.symm) e
    rw [h] at z
    cases z
theorem Gr.chg {x : Addr} {vs : List V} (g : Gr H l n m c k) (hl : l ≠ a) (e : H a = some (.lst (.ref x :: vs))) (ch : Chg a H H') : Gr H' l n m c k := by
  obtain ⟨us, rs, e1, hR, h1, h2, h3⟩ := g
  refine ⟨us, rs, ch _ _ hl e1, ⟨hR.1, fun i r hr => ?_⟩, h1, h2, h3⟩
  obtain ⟨q, e2, e3⟩ := hR.2 i r hr
  refine ⟨q, e2, ch _ _ ?_ e3⟩
  rintro rfl
  rw [e] at e3
  cases r <;> cases e3
theorem Wd.chg {x : Addr} {vs : List V} (g : Wd H l n m k) (e : H a = some (.lst (.ref x :: vs))) (ch : Chg a H H') : Wd H' l n m k := by
  obtain ⟨X, e1, h1, h2, h3⟩ := g
  refine ⟨X, ch _ _ ?_ e1, h1, h2, h3⟩
  rintro rfl
  rw [e] at e1
  cases X <;> cases e1
theorem So.same (h : So H a n m c k) (s : Same H H') : So H' a n m c k := by
  obtain ⟨vs, e, h1, h2⟩ := h
  refine ⟨vs, s _ _ e, h1, fun v hv => ?_⟩
  obtain ⟨l, e1, e2, g⟩ := h2 v hv
  exact ⟨l, e1, e2, g.same s⟩
theorem So.pn (h : So H a n m c k) (hP : PenAt H pen L) (ch : Chg pen H H') : So H' a n m c k := by
  obtain ⟨vs, e, h1, h2⟩ := h
  refine ⟨vs, ch _ _ ?_ e, h1, fun v hv => ?_⟩
  · rintro rfl
    obtain ⟨ns, p1, p2, g1, _⟩ := hP
    rw [e] at g1
    cases g1
    obtain ⟨l, e1, _⟩ := h2 (.int p1) (by simp)
    cases e1
  · obtain ⟨l, e1, e2, g⟩ := h2 v hv
    exact ⟨l, e1, e2, g.pn hP ch⟩
theorem So.nn (h : So H a n m c k) (hl : H l = none) : l ≠ a := by
  rintro rfl
  obtain ⟨vs, e, _⟩ := h
  rw [hl] at e
  cases e
theorem So.four {l1 l2 l3 l4 : Addr} (g1 : Gr H l1 n m c 63) (g2 : Gr H l2 n m c 63) (g3 : Gr H l3 n m c 63) (g4 : Gr H l4 n m c 63) (hn : H a = none) (e : H' a = some (.lst [.ref l1, .ref l2, .ref l3, .ref l4])) (s : Same H H') : So H' a n m c 4 := by
  refine ⟨_, e, rfl, fun v hv => ?_⟩
  simp only [List.mem_cons, List.not_mem_nil, or_false] at hv
  rcases hv with rfl | rfl | rfl | rfl
  · exact ⟨_, rfl, g1.new hn, g1.same s⟩
  · exact ⟨_, rfl, g2.new hn, g2.same s⟩
  · exact ⟨_, rfl, g3.new hn, g3.same s⟩
  · exact ⟨_, rfl, g4.new hn, g4.same s⟩
theorem So.nine {vs : List V} (h : So H b n m c 4) (e1 : H b = some (.lst vs)) (g : Gr H l n m c 63) (hn : H a = none) (e : H' a = some (.lst (vs ++ (List.replicate (Int.toNat 5) [V.ref l]).flatten))) (s : Same H H') : So H' a n m c 9 := by
  obtain ⟨vs', e2, h1, h2⟩ := h
  rw [e1] at e2
  cases e2
  refine ⟨_, e, ?_, fun v hv => ?_⟩
  · rw [List.length_append, h1]; rfl
  · rcases List.mem_append.mp hv with hv | hv
    · obtain ⟨l', q1, q2, q3⟩ := h2 v hv
      exact ⟨l', q1, q3.new hn, q3.same s⟩
    · have : v = .ref l := by
        have hv : v ∈ [V.ref l, .ref l, .ref l, .ref l, .ref l] := hv
        simpa using hv
      exact ⟨l, this, g.new hn, g.same s⟩
theorem So.ty {K : PySem.W.Frag} {R : Prop} (h : So H a n m c k) (q : R) : tyV K "list" (.ref a) H ∧ R := by
  obtain ⟨vs, e, _⟩ := h
  exact g_tyl (.of e) q
theorem So.put {Q : VK} (h : So H a n m c k) (hk : 0 < k ∧ k < 100) (g : Gr H l n m c 63) (hl : l ≠ a)
    (q : ∀ H', So H' a n m c (k + 1) → (∀ (l : Addr) (n m c k : Nat), Gr H l n m c k → l ≠ a → Gr H' l n m c k) → (∀ (l : Addr) (n m k : Nat), Wd H l n m k → Wd H' l n m k) → Chg a H H' → Q .non H') : rAppendG (.ref a) [.ref l] H Q := by
  obtain ⟨vs, e, h1, h2⟩ := h
  refine g_append e (by rw [h1]; show k < 16777216; omega) fun H' e' ch => ?_
  obtain ⟨x, ws, rfl⟩ : ∃ x ws, vs = V.ref x :: ws := by
    cases vs with
    | nil => exact absurd h1 (by show ¬ 0 = k; omega)
    | cons v ws =>
      obtain ⟨x, rfl, _⟩ := h2 v List.mem_cons_self
      exact ⟨x, ws, rfl⟩
  refine q H' ⟨_, e', by rw [List.length_append, h1]; rfl, fun v hv => ?_⟩ (fun l n m c k g hl => g.chg hl e ch) (fun l n m k g => g.chg e ch) ch
  rcases List.mem_append.mp hv with hv | hv
  · obtain ⟨l', q1, q2, q3⟩ := h2 v hv
    exact ⟨l', q1, q2, q3.chg q2 e ch⟩
  · rw [List.mem_singleton.mp hv]
    exact ⟨l, rfl, hl, g.chg hl e ch⟩
theorem So.at {y : Int} (h : So H a n m c k) (h0 : 0 ≤ y) (h1 : y < k) : ∃ (vs : List V) (l : Addr), H a = some (.lst vs) ∧ atI vs y = some (.ref l) ∧ Gr H l n m c 63 := by
  obtain ⟨vs, e, g1, g2⟩ := h
  obtain ⟨i, rfl⟩ : ∃ i : Nat, y = i := ⟨y.toNat, by omega⟩
  obtain ⟨v, hv⟩ : ∃ v, vs[i]? = some v := ⟨_, List.getElem?_eq_getElem (by omega)⟩
  obtain ⟨l, rfl, _, g⟩ := g2 v (List.mem_of_getElem? hv)
  exact ⟨vs, l, e, atI_of (by omega) (by rw [Int.toNat_natCast]; exact hv), g⟩
end
def spByRows : Sp := fun vs H Q _ => ∃ (pen L rl : Addr) (us : List V) (n m c N : Nat), vs = [.ref pen, .ref rl] ∧ PenAt H pen L ∧ H rl = some (.lst us) ∧ us ≠ [] ∧ Gr H rl n m c 63 ∧ n ≤ 40 ∧ c ≤ 200 ∧ m ≤ 40000 ∧ 2 * n + 1 ≤ N ∧ n + 9 ≤ N ∧
  ∀ (l : Addr) H', Gr H' l N (3 * m + 6000) (c + 80) 63 → PenAt H' pen L → Chg pen H H' → Q (.ref l) H'
theorem pure_byrows {K : PySem.W.Frag} {w : World} : PureOk 2 spByRows (t_law_by_rows K w spDraw spGreat) 11 := by
  refine ⟨fun vs H Q E ⟨_, _, _, _, _, _, _, _, e, _⟩ => by rw [e]; rfl, ?_⟩
  rintro vs H Q E ⟨pen, L, rl, us, n, m, c, N, rfl, hP, el, hne, hG, hn, hc, hm, hN1, hN2, q⟩
  show t_law_by_rows K w _ _ _ [some (.ref pen), some (.ref rl), none, none, none, none, none, none, none, none, none] H
  unfold t_law_by_rows
  have hul : 1 ≤ us.length := by
    cases us with
    | nil => exact absurd rfl hne
    | cons a b => rw [List.length_cons]; omega
  have hun : us.length ≤ n := by
    obtain ⟨us', rs, e', hR, g1, _⟩ := hG
    rw [el] at e'
    cases e'
    rw [hR.1]
    exact g1
  have hlp := hG.ne hP
  walk_at "go"
  refine g_lenL (.of el) ?_
  walk_at "go"
  refine g_draw (L := L) hP (by omega) (by omega) fun y H1 y0 y1 hP1 c1 => ?_
  have el1 := c1 _ _ hlp el
  have hG1 := hG.pn hP c1
  walk_at "go"
  refine g_lenL (.of el1) ?_
  walk_at "go"
  refine g_draw (L := L) hP1 (by omega) (by omega) fun z H2 z0 z1 hP2 c2 => ?_
  have el2 := c2 _ _ hlp el1
  have hG2 := hG1.pn hP1 c2
  walk_at "go"
  refine ⟨_, _, rfl, ?_⟩
  obtain ⟨ra, Xa, hxa, ea, a1, a2, a3⟩ := hG2.at el2 y0 y1
  obtain ⟨rb, Xb, hxb, eb, b1, b2, b3⟩ := hG2.at el2 z0 z1
  have wa : Wd H2 ra c m 63 := ⟨Xa, ea, a1, a2, a3⟩
  have wb : Wd H2 rb c m 63 := ⟨Xb, eb, b1, b2, b3⟩
  have c02 : Chg pen H H2 := c1.trans c2
  clear el el1 hG hG1 hP hP1 c1 c2
  walk_at "go"
  refine g_ixL (.of el2) hxa ?_
  walk_at "go"
  refine wa.sl fun hd0 H3 n3 s3 w3 => ?_
  have el3 := s3 _ _ el2
  have ea3 := s3 _ _ ea
  walk_at "go"
  refine g_ixL (.of el3) hxa ?_
  refine g_inL (.of ea3) ?_
  walk_at "go"
  refine g_cutA (fun l H' => Wd H' l c m 63 ∧ Same H3 H') (B := ?B) (fun rest => ?f) ?b
  case f =>
    by_cases hin : ("=" : Str) ∈ Xa
    · obtain ⟨j, hj1, hj2⟩ := first_at hin
      refine g_T (decide_eq_true hin) ?_
      walk_at "go"
      refine g_ixL (.of el3) hxa ?_
      walk_at "go"
      refine g_ixL (.of el3) hxa ?_
      refine g_tyl (.of ea3) ?_
      walk_at "go"
      refine g_indexF (.of ea3) hj1 hj2 ?_
      walk_at "go"
      refine (wa.same s3).sl fun hd H4 n4 s4 w4 => ?_
      refine g_name rfl ?_
      exact rest hd H4 ⟨w4, s4⟩
    · refine g_F (decide_eq_false hin) ?_
      exact rest hd0 H3 ⟨w3, .refl _⟩
  case b =>
    rintro hd H4 ⟨wh, s34⟩
    have s24 := s3.trans s34
    have el4 := s34 _ _ el3
    have hG4 : Gr H4 rl n m (c + 80) 63 := (hG2.same s24).mono (Nat.le_refl _) (Nat.le_refl _) (by omega) (Nat.le_refl _)
    have eb4 := s24 _ _ eb
    have wb4 := wb.same s24
    have hP4 := hP2.same s24
    have c04 : Chg pen H H4 := c02.trans (.same s24)
    clear s3 s34 s24 el2 el3 hG2 ea eb wa wb hP2 c02 ea3 w3 n3 hxa a1 a2 a3
    walk_at "go"
    refine g_isrng (by decide) (by decide) ?_
    intro D hD
    refine lc_any 9 (fun i acc H' => ∃ as : List Addr, acc = as.map V.ref ∧ as.length = i ∧ (∀ a ∈ as, a ≠ D ∧ Wd H' a 3 192 63) ∧ Same H4 H') hD (fun H' _ s => ⟨[], rfl, rfl, fun a ha => (by cases ha), s⟩) (fun i acc H' hi _ => hi) (fun acc H' _ => Nat.le_refl _) ?_ ?_
    · rintro i x acc _ H6 hi hla ⟨as, rfl, hal, has, s6⟩ hd6 ⟨rfl, rfl⟩
      obtain ⟨ch, hch⟩ : ∃ ch, ("abcdefghi" : Str).cps.toList[i]? = some ch := ⟨_, List.getElem?_eq_getElem (by show i < 9; exact hi)⟩
      walk_at "go"
      refine ⟨rfl, ?_⟩
      walk_at "go"
      refine g_T rfl ?_
      walk_at "go"
      refine g_ixS (by decide) (c := ch) (atI_of (by omega) (by rw [show (0 + (i : Int)).toNat = i from by omega]; exact hch)) ?_
      refine g_addS (by show 1 + 1 ≤ 16777216; decide) ?_
      walk_at "go"
      intro l7 H7 n7 e7 s7
      have hlD : l7 ≠ D := (ne_of_none hd6 n7).symm
      refine lc_step (s7 _ _ hd6) hla (by show _ < 16777216; omega) fun H8 e8 c8 => ?_
      have k8 : ∀ {a : Addr}, a ≠ D → Wd H7 a 3 192 63 → Wd H8 a 3 192 63 := fun hn ⟨X, e, h1, h2, h3⟩ => ⟨X, c8 _ _ hn e, h1, h2, h3⟩
      refine ⟨as ++ [l7], by rw [List.map_append]; rfl, by rw [List.length_append, hal]; rfl, fun a ha => ?_, Same.chg (s6.trans s7) hD c8⟩
      rcases List.mem_append.mp ha with ha | ha
      · exact ⟨(has a ha).1, k8 (has a ha).1 ((has a ha).2.same s7)⟩
      · rw [List.mem_singleton.mp ha]
        exact ⟨hlD, k8 hlD (Wd.mk (n := 3) (k := 63) (X := [("f" : Str) ++ (⟨#[ch]⟩ : Str), "=", "1"]) e7 (by show 3 ≤ 3; decide) (fc (by rw [Str.lenCat]; show 1 + 1 ≤ 63; decide) (fc (by decide) (fc (by decide) fn0))))⟩
    rintro acc H5 hd5 ⟨as, rfl, hal, has, s5⟩
    have gN : Gr H5 D 9 1737 (c + 80) 63 := (Gr.mk hd5 fun a ha => (has a ha).2).mono (by omega) (by rw [hal]; decide) (by omega) (Nat.le_refl _)
    have g_5 := hG4.same s5
    have el_5 := s5 _ _ el4
    have wh_5 := wh.same s5
    have wb_5 := wb4.same s5
    have gN_5 := gN
    have P_5 := hP4.same s5
    have c0_5 : Chg pen H H5 := c04.trans (.same s5)
    clear hG4 el4 wh wb4 gN hP4 c04 s5 has hal eb4 hd5
    -- walk
    walk_at "go"
    refine g_5.sl fun a_x1 H6 n6 s6 x1_6 => ?_
    walk_at "go"
    intro a_v1 H7 n7 e7 s7
    have v1_7 : Wd H7 a_v1 1 64 63 := Wd.mk (n := 1) (k := 63) (X := [""]) e7 (by decide) (fc (by decide) fn0)
    walk_at "go"
    intro a_o1 H8 n8 e8 s8
    have o1_8 : Gr H8 a_o1 1 65 (c + 80) 63 := (Gr.one v1_7 s8 e8).mono (Nat.le_refl _) (by omega) (by omega) (Nat.le_refl _)
    walk_at "go"
    refine ((x1_6.same s7).same s8).add o1_8 (by omega) fun a_x2 H9 n9 s9 x2_9 => ?_
    walk_at "go"
    refine ((((g_5.same s6).same s7).same s8).same s9).sl fun a_x3 H10 n10 s10 x3_10 => ?_
    walk_at "go"
    refine (x2_9.same s10).add x3_10 (by omega) fun a_A H11 n11 s11 A_11 => ?_
    have Ab_11 : Gr H11 a_A N (3 * m + 6000) (c + 80) 63 := A_11.mono (by omega) (by omega) (Nat.le_refl _) (Nat.le_refl _)
    have g_11 := ((((((g_5.same s6).same s7).same s8).same s9).same s10).same s11)
    have el_11 := (s11 _ _ (s10 _ _ (s9 _ _ (s8 _ _ (s7 _ _ (s6 _ _ el_5))))))
    have wh_11 := ((((((wh_5.same s6).same s7).same s8).same s9).same s10).same s11)
    have wb_11 := ((((((wb_5.same s6).same s7).same s8).same s9).same s10).same s11)
    have gN_11 := ((((((gN_5.same s6).same s7).same s8).same s9).same s10).same s11)
    have P_11 := ((((((P_5.same s6).same s7).same s8).same s9).same s10).same s11)
    have c0_11 := ((((((c0_5.trans (.same s6)).trans (.same s7)).trans (.same s8)).trans (.same s9)).trans (.same s10)).trans (.same s11))
    clear x1_6 v1_7 o1_8 x2_9 x3_10 A_11 g_5 el_5 wh_5 wb_5 gN_5 P_5 c0_5
    walk_at "go"
    refine g_11.sl fun a_x1 H12 n12 s12 x1_12 => ?_
    walk_at "go"
    refine (g_11.same s12).sl fun a_x2 H13 n13 s13 x2_13 => ?_
    walk_at "go"
    refine (x1_12.same s13).add x2_13 (by omega) fun a_B H14 n14 s14 B_14 => ?_
    have Bb_14 : Gr H14 a_B N (3 * m + 6000) (c + 80) 63 := B_14.mono (by omega) (by omega) (Nat.le_refl _) (Nat.le_refl _)
    have g_14 := (((g_11.same s12).same s13).same s14)
    have el_14 := (s14 _ _ (s13 _ _ (s12 _ _ el_11)))
    have wh_14 := (((wh_11.same s12).same s13).same s14)
    have wb_14 := (((wb_11.same s12).same s13).same s14)
    have gN_14 := (((gN_11.same s12).same s13).same s14)
    have P_14 := (((P_11.same s12).same s13).same s14)
    have c0_14 := (((c0_11.trans (.same s12)).trans (.same s13)).trans (.same s14))
    have Ab_14 := (((Ab_11.same s12).same s13).same s14)
    clear x1_12 x2_13 B_14 g_11 el_11 wh_11 wb_11 gN_11 P_11 c0_11 Ab_11
    walk_at "go"
    refine g_14.sl fun a_x1 H15 n15 s15 x1_15 => ?_
    walk_at "go"
    refine (g_14.same s15).sl fun a_x2 H16 n16 s16 x2_16 => ?_
    walk_at "go"
    refine (x1_15.same s16).add x2_16 (by omega) fun a_Cc H17 n17 s17 Cc_17 => ?_
    have Ccb_17 : Gr H17 a_Cc N (3 * m + 6000) (c + 80) 63 := Cc_17.mono (by omega) (by omega) (Nat.le_refl _) (Nat.le_refl _)
    have g_17 := (((g_14.same s15).same s16).same s17)
    have el_17 := (s17 _ _ (s16 _ _ (s15 _ _ el_14)))
    have wh_17 := (((wh_14.same s15).same s16).same s17)
    have wb_17 := (((wb_14.same s15).same s16).same s17)
    have gN_17 := (((gN_14.same s15).same s16).same s17)
    have P_17 := (((P_14.same s15).same s16).same s17)
    have c0_17 := (((c0_14.trans (.same s15)).trans (.same s16)).trans (.same s17))
    have Ab_17 := (((Ab_14.same s15).same s16).same s17)
    have Bb_17 := (((Bb_14.same s15).same s16).same s17)
    clear x1_15 x2_16 Cc_17 g_14 el_14 wh_14 wb_14 gN_14 P_14 c0_14 Ab_14 Bb_14
    walk_at "go"
    intro a_v1 H18 n18 e18 s18
    have v1_18 : Wd H18 a_v1 1 64 63 := Wd.mk (n := 1) (k := 63) (X := [""]) e18 (by decide) (fc (by decide) fn0)
    walk_at "go"
    intro a_o1 H19 n19 e19 s19
    have o1_19 : Gr H19 a_o1 1 65 (c + 80) 63 := (Gr.one v1_18 s19 e19).mono (Nat.le_refl _) (by omega) (by omega) (Nat.le_refl _)
    walk_at "go"
    refine ((g_17.same s18).same s19).add o1_19 (by omega) fun a_Dd H20 n20 s20 Dd_20 => ?_
    have Ddb_20 : Gr H20 a_Dd N (3 * m + 6000) (c + 80) 63 := Dd_20.mono (by omega) (by omega) (Nat.le_refl _) (Nat.le_refl _)
    have g_20 := (((g_17.same s18).same s19).same s20)
    have el_20 := (s20 _ _ (s19 _ _ (s18 _ _ el_17)))
    have wh_20 := (((wh_17.same s18).same s19).same s20)
    have wb_20 := (((wb_17.same s18).same s19).same s20)
    have gN_20 := (((gN_17.same s18).same s19).same s20)
    have P_20 := (((P_17.same s18).same s19).same s20)
    have c0_20 := (((c0_17.trans (.same s18)).trans (.same s19)).trans (.same s20))
    have Ab_20 := (((Ab_17.same s18).same s19).same s20)
    have Bb_20 := (((Bb_17.same s18).same s19).same s20)
    have Ccb_20 := (((Ccb_17.same s18).same s19).same s20)
    clear v1_18 o1_19 Dd_20 g_17 el_17 wh_17 wb_17 gN_17 P_17 c0_17 Ab_17 Bb_17 Ccb_17
    walk_at "go"
    intro a_so H21 n21 e21 s21
    have so_21 : So H21 a_so N (3 * m + 6000) (c + 80) 4 := So.four Ab_20 Bb_20 Ccb_20 Ddb_20 n21 e21 s21
    have g_21 := (g_20.same s21)
    have el_21 := (s21 _ _ el_20)
    have wh_21 := (wh_20.same s21)
    have wb_21 := (wb_20.same s21)
    have gN_21 := (gN_20.same s21)
    have P_21 := (P_20.same s21)
    have c0_21 := (c0_20.trans (.same s21))
    clear Ab_20 Bb_20 Ccb_20 Ddb_20 g_20 el_20 wh_20 wb_20 gN_20 P_20 c0_20
    walk_at "go"
    refine g_21.sl fun a_x1 H22 n22 s22 x1_22 => ?_
    walk_at "go"
    have P_22 := (P_21.same s22)
    refine ⟨pen, L, rfl, P_22, fun a_gr H23 gr_23 P_23 c23 => ?_⟩
    walk_at "go"
    refine ((wh_21.same s22).pn P_22 c23).add gr_23 (by omega) fun a_r1 H24 n24 s24 r1_24 => ?_
    walk_at "go"
    intro a_o1 H25 n25 e25 s25
    have o1_25 : Gr H25 a_o1 1 (m + 4701) (c + 80) 63 := (Gr.one r1_24 s25 e25).mono (Nat.le_refl _) (by omega) (by omega) (Nat.le_refl _)
    walk_at "go"
    refine (((x1_22.pn P_22 c23).same s24).same s25).add o1_25 (by omega) fun a_x2 H26 n26 s26 x2_26 => ?_
    walk_at "go"
    refine (((((g_21.same s22).pn P_22 c23).same s24).same s25).same s26).sl fun a_x3 H27 n27 s27 x3_27 => ?_
    walk_at "go"
    refine (x2_26.same s27).add x3_27 (by omega) fun a_GR H28 n28 s28 GR_28 => ?_
    have GRb_28 : Gr H28 a_GR N (3 * m + 6000) (c + 80) 63 := GR_28.mono (by omega) (by omega) (Nat.le_refl _) (Nat.le_refl _)
    have g_28 := (((((((g_21.same s22).pn P_22 c23).same s24).same s25).same s26).same s27).same s28)
    have el_28 := (s28 _ _ (s27 _ _ (s26 _ _ (s25 _ _ (s24 _ _ (c23 _ _ hlp (s22 _ _ el_21)))))))
    have wh_28 := (((((((wh_21.same s22).pn P_22 c23).same s24).same s25).same s26).same s27).same s28)
    have wb_28 := (((((((wb_21.same s22).pn P_22 c23).same s24).same s25).same s26).same s27).same s28)
    have gN_28 := (((((((gN_21.same s22).pn P_22 c23).same s24).same s25).same s26).same s27).same s28)
    have P_28 := (((((P_23.same s24).same s25).same s26).same s27).same s28)
    have c0_28 := (((((((c0_21.trans (.same s22)).trans c23).trans (.same s24)).trans (.same s25)).trans (.same s26)).trans (.same s27)).trans (.same s28))
    have so_28 := (((((((so_21.same s22).pn P_22 c23).same s24).same s25).same s26).same s27).same s28)
    clear x1_22 gr_23 r1_24 o1_25 x2_26 x3_27 GR_28 g_21 el_21 wh_21 wb_21 gN_21 P_22 c0_21 so_21
    walk_at "go"
    intro a_l5 H29 n29 e29 s29
    walk_at "go"
    refine ⟨a_l5, 5, _, rfl, rfl, e29, by decide, by decide, by show 1 * 5 ≤ 16777216; decide, fun a_r5 H30 n30 e30 s30 => ?_⟩
    obtain ⟨vs, evs, hvs, hvg⟩ := id ((so_28.same s29).same s30)
    have so_30 := ((so_28.same s29).same s30)
    have GRb_30 := ((GRb_28.same s29).same s30)
    refine g_addL evs e30 (by rw [hvs]; show 4 + 5 ≤ 16777216; decide) fun a H31 n31 e31 s31 => ?_
    have sn_31 : So H31 a N (3 * m + 6000) (c + 80) 9 := So.nine so_30 evs GRb_30 n31 e31 s31
    have hra := ((g_28.same s29).same s30).new n31
    have hDa := ((gN_28.same s29).same s30).new n31
    have hpa := ((P_28.same s29).same s30).ne n31
    have hwas := ((c0_28.trans (.same s29)).trans (.same s30)).was ((P_28.same s29).same s30) n31
    have g_31 := (((g_28.same s29).same s30).same s31)
    have el_31 := (s31 _ _ (s30 _ _ (s29 _ _ el_28)))
    have wh_31 := (((wh_28.same s29).same s30).same s31)
    have wb_31 := (((wb_28.same s29).same s30).same s31)
    have gN_31 := (((gN_28.same s29).same s30).same s31)
    have P_31 := (((P_28.same s29).same s30).same s31)
    have c0_31 := (((c0_28.trans (.same s29)).trans (.same s30)).trans (.same s31))
    clear so_30 GRb_30 g_28 el_28 wh_28 wb_28 gN_28 P_28 c0_28
    walk_at "go"
    refine g_lenL (.of el_31) ?_
    walk_at "go"
    refine g_draw (L := L) P_31 (by decide) (by decide) fun y2 H32 y20 y21 P_32 c32 => ?_
    walk_at "go"
    refine (sn_31.pn P_31 c32).ty ?_
    walk_at "go"
    refine (gN_31.pn P_31 c32).sl fun a_x1 H33 n33 s33 x1_33 => ?_
    walk_at "go"
    have Eso := ((sn_31.pn P_31 c32).same s33)
    refine x1_33.add ((g_31.pn P_31 c32).same s33) (by omega) fun a_E H34 n34 s34 E_34 => ?_
    have Ene := Eso.nn n34
    clear Eso
    walk_at "go"
    have Eb_34 : Gr H34 a_E N (3 * m + 6000) (c + 80) 63 := E_34.mono (by omega) (by omega) (Nat.le_refl _) (Nat.le_refl _)
    have g_34 := (((g_31.pn P_31 c32).same s33).same s34)
    have el_34 := (s34 _ _ (s33 _ _ (c32 _ _ hlp el_31)))
    have wh_34 := (((wh_31.pn P_31 c32).same s33).same s34)
    have wb_34 := (((wb_31.pn P_31 c32).same s33).same s34)
    have gN_34 := (((gN_31.pn P_31 c32).same s33).same s34)
    have P_34 := ((P_32.same s33).same s34)
    have c0_34 := (((c0_31.trans c32).trans (.same s33)).trans (.same s34))
    have sn_34 := (((sn_31.pn P_31 c32).same s33).same s34)
    clear x1_33 E_34 g_31 el_31 wh_31 wb_31 gN_31 P_32 c0_31 sn_31
    refine sn_34.put (by decide) Eb_34 (Ene) fun H35 sn_35 kg kw ka => ?_
    have g_35 := kg _ _ _ _ _ g_34 hra
    have gN_35 := kg _ _ _ _ _ gN_34 hDa
    have wh_35 := kw _ _ _ _ wh_34
    have wb_35 := kw _ _ _ _ wb_34
    have el_35 := ka _ _ hra el_34
    have P_35 := P_34.chg ka hpa.1 hpa.2
    have c0_35 := c0_34.fresh hwas ka
    clear kg kw ka g_34 el_34 wh_34 wb_34 gN_34 P_34 c0_34 sn_34 Eb_34
    walk_at "go"
    refine sn_35.ty ?_
    walk_at "go"
    refine g_35.sl fun a_x1 H36 n36 s36 x1_36 => ?_
    walk_at "go"
    refine g_ixL (.of (s36 _ _ el_35)) hxb ?_
    walk_at "go"
    intro a_o1 H37 n37 e37 s37
    have o1_37 : Gr H37 a_o1 1 (m + 1) (c + 80) 63 := (Gr.one (wb_35.same s36) s37 e37).mono (Nat.le_refl _) (by omega) (by omega) (Nat.le_refl _)
    walk_at "go"
    refine (x1_36.same s37).add o1_37 (by omega) fun a_x2 H38 n38 s38 x2_38 => ?_
    walk_at "go"
    refine (((g_35.same s36).same s37).same s38).sl fun a_x3 H39 n39 s39 x3_39 => ?_
    walk_at "go"
    have Fso := ((((sn_35.same s36).same s37).same s38).same s39)
    refine (x2_38.same s39).add x3_39 (by omega) fun a_F H40 n40 s40 F_40 => ?_
    have Fne := Fso.nn n40
    clear Fso
    walk_at "go"
    have Fb_40 : Gr H40 a_F N (3 * m + 6000) (c + 80) 63 := F_40.mono (by omega) (by omega) (Nat.le_refl _) (Nat.le_refl _)
    have g_40 := (((((g_35.same s36).same s37).same s38).same s39).same s40)
    have el_40 := (s40 _ _ (s39 _ _ (s38 _ _ (s37 _ _ (s36 _ _ el_35)))))
    have wh_40 := (((((wh_35.same s36).same s37).same s38).same s39).same s40)
    have wb_40 := (((((wb_35.same s36).same s37).same s38).same s39).same s40)
    have gN_40 := (((((gN_35.same s36).same s37).same s38).same s39).same s40)
    have P_40 := (((((P_35.same s36).same s37).same s38).same s39).same s40)
    have c0_40 := (((((c0_35.trans (.same s36)).trans (.same s37)).trans (.same s38)).trans (.same s39)).trans (.same s40))
    have sn_40 := (((((sn_35.same s36).same s37).same s38).same s39).same s40)
    clear x1_36 o1_37 x2_38 x3_39 F_40 g_35 el_35 wh_35 wb_35 gN_35 P_35 c0_35 sn_35
    refine sn_40.put (by decide) Fb_40 (Fne) fun H41 sn_41 kg kw ka => ?_
    have g_41 := kg _ _ _ _ _ g_40 hra
    have gN_41 := kg _ _ _ _ _ gN_40 hDa
    have wh_41 := kw _ _ _ _ wh_40
    have wb_41 := kw _ _ _ _ wb_40
    have el_41 := ka _ _ hra el_40
    have P_41 := P_40.chg ka hpa.1 hpa.2
    have c0_41 := c0_40.fresh hwas ka
    clear kg kw ka g_40 el_40 wh_40 wb_40 gN_40 P_40 c0_40 sn_40 Fb_40
    walk_at "go"
    refine g_draw (L := L) P_41 (by decide) (by decide) fun y3 H42 y30 y31 P_42 c42 => ?_
    have g_42 := (g_41.pn P_41 c42)
    have el_42 := (c42 _ _ hlp el_41)
    have wh_42 := (wh_41.pn P_41 c42)
    have wb_42 := (wb_41.pn P_41 c42)
    have gN_42 := (gN_41.pn P_41 c42)
    have c0_42 := (c0_41.trans c42)
    have sn_42 := (sn_41.pn P_41 c42)
    clear g_41 el_41 wh_41 wb_41 gN_41 c0_41 sn_41
    walk_at "go"
    refine g_isrng (by omega) (by omega) ?_
    have hn5 : (3 + y3).toNat ≤ 5 := by omega
    generalize (3 + y3).toNat = nt at hn5
    refine lc_drawn (by omega) P_42 (fun y _ => ∃ s : Str, y = .str s ∧ s.length ≤ 63) (fun y H H' _ h => h) ?_ ?_
    · intro i Hx Nx hi hPx cx hN
      obtain ⟨ch, hch⟩ : ∃ ch, ("vwxyz" : Str).cps.toList[i]? = some ch := ⟨_, List.getElem?_eq_getElem (by show i < 5; omega)⟩
      walk_at "go"
      refine ⟨rfl, ?_⟩
      walk_at "go"
      refine g_ixS (by decide) (c := ch) (atI_of (by omega) (by rw [show (0 + (i : Int)).toNat = i from by omega]; exact hch)) ?_
      refine g_addS (by show 1 + 1 ≤ 16777216; decide) ?_
      exact hN _ Hx hPx .refl ⟨_, rfl, by rw [Str.lenCat]; show 1 + 1 ≤ 63; decide⟩
    intro Dt ys H43 nDt eDt hyl hys P_43 c43
    obtain ⟨X, rfl, hXl, hX⟩ := strs_of hys
    have wt_43 : Wd H43 Dt 5 320 63 := Wd.mk (n := 5) (k := 63) eDt (by rw [hXl, hyl]; exact hn5) hX
    have g_43 := (g_42.pn P_42 c43)
    have el_43 := (c43 _ _ hlp el_42)
    have wh_43 := (wh_42.pn P_42 c43)
    have wb_43 := (wb_42.pn P_42 c43)
    have gN_43 := (gN_42.pn P_42 c43)
    have c0_43 := (c0_42.trans c43)
    have sn_43 := (sn_42.pn P_42 c43)
    clear g_42 el_42 wh_42 wb_42 gN_42 c0_42 sn_42
    walk_at "go"
    refine sn_43.ty ?_
    walk_at "go"
    refine g_43.sl fun a_x1 H44 n44 s44 x1_44 => ?_
    walk_at "go"
    intro a_v1 H45 n45 e45 s45
    have v1_45 : Wd H45 a_v1 1 64 63 := Wd.mk (n := 1) (k := 63) (X := ["g"]) e45 (by decide) (fc (by decide) fn0)
    walk_at "go"
    refine v1_45.add ((wt_43.same s44).same s45) (by omega) fun a_r1 H46 n46 s46 r1_46 => ?_
    walk_at "go"
    intro a_v2 H47 n47 e47 s47
    have v2_47 : Wd H47 a_v2 2 128 63 := Wd.mk (n := 2) (k := 63) (X := ["=", ".v"]) e47 (by decide) (fc (by decide) (fc (by decide) fn0))
    walk_at "go"
    refine (r1_46.same s47).add v2_47 (by omega) fun a_r2 H48 n48 s48 r2_48 => ?_
    walk_at "go"
    intro a_o1 H49 n49 e49 s49
    have o1_49 : Gr H49 a_o1 1 520 (c + 80) 63 := (Gr.one r2_48 s49 e49).mono (Nat.le_refl _) (by omega) (by omega) (Nat.le_refl _)
    walk_at "go"
    refine (((((x1_44.same s45).same s46).same s47).same s48).same s49).add o1_49 (by omega) fun a_x2 H50 n50 s50 x2_50 => ?_
    walk_at "go"
    refine (((((((g_43.same s44).same s45).same s46).same s47).same s48).same s49).same s50).sl fun a_x3 H51 n51 s51 x3_51 => ?_
    walk_at "go"
    have Gso := ((((((((sn_43.same s44).same s45).same s46).same s47).same s48).same s49).same s50).same s51)
    refine (x2_50.same s51).add x3_51 (by omega) fun a_G H52 n52 s52 G_52 => ?_
    have Gne := Gso.nn n52
    clear Gso
    walk_at "go"
    have Gb_52 : Gr H52 a_G N (3 * m + 6000) (c + 80) 63 := G_52.mono (by omega) (by omega) (Nat.le_refl _) (Nat.le_refl _)
    have g_52 := (((((((((g_43.same s44).same s45).same s46).same s47).same s48).same s49).same s50).same s51).same s52)
    have el_52 := (s52 _ _ (s51 _ _ (s50 _ _ (s49 _ _ (s48 _ _ (s47 _ _ (s46 _ _ (s45 _ _ (s44 _ _ el_43)))))))))
    have wh_52 := (((((((((wh_43.same s44).same s45).same s46).same s47).same s48).same s49).same s50).same s51).same s52)
    have wb_52 := (((((((((wb_43.same s44).same s45).same s46).same s47).same s48).same s49).same s50).same s51).same s52)
    have gN_52 := (((((((((gN_43.same s44).same s45).same s46).same s47).same s48).same s49).same s50).same s51).same s52)
    have P_52 := (((((((((P_43.same s44).same s45).same s46).same s47).same s48).same s49).same s50).same s51).same s52)
    have c0_52 := (((((((((c0_43.trans (.same s44)).trans (.same s45)).trans (.same s46)).trans (.same s47)).trans (.same s48)).trans (.same s49)).trans (.same s50)).trans (.same s51)).trans (.same s52))
    have sn_52 := (((((((((sn_43.same s44).same s45).same s46).same s47).same s48).same s49).same s50).same s51).same s52)
    clear wt_43 x1_44 v1_45 r1_46 v2_47 r2_48 o1_49 x2_50 x3_51 G_52 g_43 el_43 wh_43 wb_43 gN_43 P_43 c0_43 sn_43
    refine sn_52.put (by decide) Gb_52 (Gne) fun H53 sn_53 kg kw ka => ?_
    have g_53 := kg _ _ _ _ _ g_52 hra
    have gN_53 := kg _ _ _ _ _ gN_52 hDa
    have wh_53 := kw _ _ _ _ wh_52
    have wb_53 := kw _ _ _ _ wb_52
    have el_53 := ka _ _ hra el_52
    have P_53 := P_52.chg ka hpa.1 hpa.2
    have c0_53 := c0_52.fresh hwas ka
    clear kg kw ka g_52 el_52 wh_52 wb_52 gN_52 P_52 c0_52 sn_52 Gb_52
    walk_at "go"
    refine sn_53.ty ?_
    walk_at "go"
    refine g_53.sl fun a_x1 H54 n54 s54 x1_54 => ?_
    walk_at "go"
    have Zso := (sn_53.same s54)
    refine (g_53.same s54).add x1_54 (by omega) fun a_Z H55 n55 s55 Z_55 => ?_
    have Zne := Zso.nn n55
    clear Zso
    walk_at "go"
    have Zb_55 : Gr H55 a_Z N (3 * m + 6000) (c + 80) 63 := Z_55.mono (by omega) (by omega) (Nat.le_refl _) (Nat.le_refl _)
    have g_55 := ((g_53.same s54).same s55)
    have el_55 := (s55 _ _ (s54 _ _ el_53))
    have wh_55 := ((wh_53.same s54).same s55)
    have wb_55 := ((wb_53.same s54).same s55)
    have gN_55 := ((gN_53.same s54).same s55)
    have P_55 := ((P_53.same s54).same s55)
    have c0_55 := ((c0_53.trans (.same s54)).trans (.same s55))
    have sn_55 := ((sn_53.same s54).same s55)
    clear x1_54 Z_55 g_53 el_53 wh_53 wb_53 gN_53 P_53 c0_53 sn_53
    refine sn_55.put (by decide) Zb_55 (Zne) fun H56 sn_56 kg kw ka => ?_
    have g_56 := kg _ _ _ _ _ g_55 hra
    have gN_56 := kg _ _ _ _ _ gN_55 hDa
    have wh_56 := kw _ _ _ _ wh_55
    have wb_56 := kw _ _ _ _ wb_55
    have el_56 := ka _ _ hra el_55
    have P_56 := P_55.chg ka hpa.1 hpa.2
    have c0_56 := c0_55.fresh hwas ka
    clear kg kw ka g_55 el_55 wh_55 wb_55 gN_55 P_55 c0_55 sn_55 Zb_55
    walk_at "go"
    obtain ⟨vs2, e2, hl2, _⟩ := id sn_56
    refine g_lenL (.of e2) ?_
    walk_at "go"
    refine g_draw (L := L) P_56 (by rw [hl2]; decide) (by rw [hl2]; decide) fun y4 H57 y40 y41 P_57 c57 => ?_
    obtain ⟨vs3, l, e3, hx3, gl⟩ := (sn_56.pn P_56 c57).at y40 (by rw [hl2] at y41; exact y41)
    refine g_ixL (.of e3) hx3 ?_
    exact q l H57 gl P_57 (c0_56.trans c57)

/-! ### k73: the law -/
theorem Gr.few {H : Hp} {a : Addr} {n m c k : Nat} (h : Gr H a n m c k) (h1 : n ≤ 40) (h2 : c ≤ 400) (h3 : k ≤ 4500) (h4 : m ≤ 89000) {us : List V} (eu : H a = some (.lst us)) (hu : us ≠ []) : ∃ rs, RowsAt H us rs ∧ Few rs 40 400 4500 89000 := by
  obtain ⟨us', rs, e, hR, g1, g2, g3⟩ := h
  rw [eu] at e
  cases e
  exact ⟨rs, hR, ⟨fun z => hu (List.eq_nil_of_length_eq_zero (by rw [hR.1, z]; rfl)), by omega, fun r hr => ⟨by have := (g3 r hr).1; omega, fun w hw => by have := (g3 r hr).2 w hw; omega⟩, by omega⟩⟩
theorem SqL.toC {K : PySem.W.Frag} {H H' : Hp} {a pen : Addr} {xs : List V} (h : SqL K H a xs) (n : H pen = none) (c : Chg pen H H') : SqL K H' a xs :=
  h.elim (fun h => .inl (h.elim (fun h => .inl (c _ _ (ne_of_none h n) h)) fun ⟨o, h⟩ => .inr ⟨o, c _ _ (ne_of_none h n) h⟩)) .inr
theorem pure_law {K : PySem.W.Frag} {w : World} : PureOk 1 (spLaw K) (t_law K w (spPen K) spBase spByRows spDraw spRightX spTextW) 6 := by
  refine ⟨fun vs H Q E ⟨_, _, e, _⟩ => by rw [e]; rfl, ?_⟩
  rintro vs H Q E ⟨sa, ns, rfl, hS, hl, q⟩
  show t_law K w _ _ _ _ _ _ _ [some (.ref sa), none, none, none, none, none] H
  unfold t_law
  walk_at "gg"
  refine ⟨sa, ns, rfl, hS, hl, fun pen L H1 npen nL hP1 s1 => ?_⟩
  walk_at "gg"
  refine g_lenL (SqL.toC hS npen (Chg.same s1)) ?_
  walk_at "gg"
  refine g_isrng (by omega) (by omega) ?_
  refine for_any (max 1 (min 2 ((ns.map V.int).length : Int))).toNat (fun i σ H' => ∃ x2 x3 x4 x5, σ = [some (.ref sa), some (.ref pen), x2, x3, x4, x5] ∧ PenAt H' pen L ∧ Chg pen H H') ⟨_, _, _, _, rfl, hP1, .same s1⟩ (fun i σ H' hi _ => hi) (fun σ H' _ => Nat.le_refl _) ?_ ?_
  · clear hP1 s1
    rintro i x σ _ H2 hi ⟨x2, x3, x4, x5, rfl, hP2, c2⟩ ⟨rfl, rfl⟩
    walk_at "go"
    refine ⟨pen, L, rfl, hP2, fun rl H4 hG ⟨us, el, hne⟩ hP4 c4 => ?_⟩
    have c04 := c2.trans c4
    have hlp := hG.ne hP4
    have hG : Gr H4 rl 4 3000 12 63 := hG.mono (by decide) (by decide) (by decide) (by decide)
    clear hP2 c2 c4
    walk_at "go"
    refine g_lenL (SqL.toC hS npen c04) ?_
    walk_at "go"
    refine g_isrng (by omega) (by omega) ?_
    refine for_any (max 3 (min 10 ((ns.map V.int).length : Int))).toNat (fun j σ H' => ∃ x2 x4 x5, σ = [some (.ref sa), some (.ref pen), x2, some (.ref rl), x4, x5] ∧ PenAt H' pen L ∧ Chg pen H H' ∧ H' rl = some (.lst us) ∧ Gr H' rl 4 3000 12 63) ⟨_, _, _, rfl, hP4, c04, el, hG⟩ (fun i σ H' hi _ => hi) (fun σ H' _ => Nat.le_refl _) ?_ ?_
    · clear hP4 c04 el hG
      rintro j x σ _ H5 hj ⟨x2, x4, x5, rfl, hP5, c05, el5, hG5⟩ ⟨rfl, rfl⟩
      walk_at "go"
      refine ⟨pen, L, rl, us, 4, 3000, 12, 13, rfl, hP5, el5, hne, hG5, by decide, by decide, by decide, by decide, by decide, fun l6 H6 g6 hP6 c6 => ?_⟩
      have el6 := c6 _ _ hlp el5
      have hG6 := hG5.pn hP5 c6
      have c06 := c05.trans c6
      walk_at "go"
      refine g_draw (L := L) hP6 (by decide) (by decide) fun y H7 y0 y1 hP7 c7 => ?_
      have el7 := c7 _ _ hlp el6
      have hG7 := hG6.pn hP6 c7
      have g7 := g6.pn hP6 c7
      have c07 := c06.trans c7
      clear hP5 hP6 c05 c06 c6 c7 el5 el6 hG5 hG6 g6
      walk_at "go"
      refine g_cutA (fun l H' => Gr H' l 27 51000 172 63 ∧ PenAt H' pen L ∧ Chg pen H7 H') (B := ?B) (fun rest => ?f) ?b
      case f =>
        have gw : Gr H7 l6 27 51000 172 63 := g7.mono (by decide) (by decide) (by decide) (by decide)
        by_cases hy : y = 0
        · refine g_T (decide_eq_true hy) ?_
          obtain ⟨us6, rs6, e6, hR6, b1, b2, b3⟩ := id g7
          walk_at "go"
          intro l8 H8 n8 e8 s8
          refine g_neNil (s8 _ _ e6) e8 ?_
          have hP8 := hP7.same s8
          walk_at "go"
          by_cases hu : us6 ≠ []
          · refine g_T (by cases us6 with | nil => exact absurd rfl hu | cons => rfl) ?_
            walk_at "go"
            refine ⟨pen, L, l6, us6, 13, 15000, 92, 27, rfl, hP8, s8 _ _ e6, hu, g7.same s8, by decide, by decide, by decide, by decide, by decide, fun l9 H9 g9 hP9 c9 => ?_⟩
            refine g_name rfl ?_
            exact rest l9 H9 ⟨g9, hP9, (Chg.same s8).trans c9⟩
          · refine g_F (by cases us6 with | nil => rfl | cons => exact absurd (by simp) hu) ?_
            exact rest l6 H8 ⟨gw.same s8, hP8, .same s8⟩
        · refine g_F (decide_eq_false hy) ?_
          exact rest l6 H7 ⟨gw, hP7, .refl⟩
      case b =>
        rintro l8 H8 ⟨g8, hP8, c8⟩
        have el8 := c8 _ _ hlp el7
        have hG8 := hG7.pn hP7 c8
        have c08 := c07.trans c8
        clear g7 el7 hG7 hP7 c07 c8
        obtain ⟨us8, rs8, e8, hR8, b1, b2, b3⟩ := id g8
        walk_at "go"
        intro l9 H9 n9 e9 s9
        refine g_neNil (s9 _ _ e8) e9 ?_
        walk_at "go"
        cases us8 with
        | nil =>
          refine g_F rfl ?_
          walk_at "go"
          exact ⟨_, _, _, rfl, hP8.same s9, c08.trans (.same s9), s9 _ _ el8, hG8.same s9⟩
        | cons v us8 =>
          refine g_T rfl ?_
          obtain ⟨rs9, hR9, hF9⟩ := (g8.same s9).few (by decide) (by decide) (by decide) (by decide) (s9 _ _ e8) (by simp)
          walk_at "go"
          refine ⟨l8, _, rs9, rfl, s9 _ _ e8, hR9, hF9, fun t H10 ht s10 => ?_⟩
          walk_at "go"
          refine ⟨t, rfl, by omega, fun H11 s11 => ?_⟩
          walk_at "go"
          have s811 := s9.trans (s10.trans s11)
          exact ⟨_, _, _, rfl, hP8.same s811, c08.trans (.same s811), s811 _ _ el8, hG8.same s811⟩
    · rintro σ H5 ⟨x2, x4, x5, rfl, hP5, c05, el5, hG5⟩
      obtain ⟨rs5, hR5, hF5⟩ := hG5.few (by decide) (by decide) (by decide) (by decide) el5 hne
      walk_at "go"
      refine ⟨rl, _, rs5, rfl, el5, hR5, hF5, fun t H6 ht s6 => ?_⟩
      walk_at "go"
      refine ⟨t, rfl, by omega, fun H7 s7 => ?_⟩
      walk_at "go"
      exact ⟨_, _, _, _, rfl, hP5.same (s6.trans s7), c05.trans (.same (s6.trans s7))⟩
  · rintro σ H2 ⟨x2, x3, x4, x5, rfl, hP2, c2⟩
    walk_at "gg"
    exact q H2

/-! ### the row -/
structure TX (w : World) (K : PySem.W.Frag) (mg : Str → Option Value) : Prop where
  errs : Errs K
  errt : ErrT K
  g_Twice : mg "Twice" = some (.ref (He.ga K "Twice"))
  g_Hidden : mg "Hidden" = some (.ref (He.ga K "Hidden"))
  g_Stranger : mg "Stranger" = some (.ref (He.ga K "Stranger"))
  g_NoText : mg "NoText" = some (.ref (He.ga K "NoText"))
  g_NoProgram : mg "NoProgram" = some (.ref (He.ga K "NoProgram"))
  g_LazyError : mg "LazyError" = some (.ref (He.ga K "LazyError"))
  g_More : mg "More" = some (.ref (He.ga K "More"))
  g_NoRow : mg "NoRow" = some (.ref (He.ga K "NoRow"))
  g_NoRows : mg "NoRows" = some (.ref (He.ga K "NoRows"))
  c_PartReader : Cls K (He.ga K "PartReader")
  g_PartReader : mg "PartReader" = some (.ref (He.ga K "PartReader"))
  a_PartReader_row : NoAttr K (He.ga K "PartReader") "row"
  a_PartReader_words : NoAttr K (He.ga K "PartReader") "words"
  a_PartReader_at : NoAttr K (He.ga K "PartReader") "at"
  a_PartReader_left : NoAttr K (He.ga K "PartReader") "left"
  d_Twice___init__ : ∃ fd, FunD K "__init__" "Twice.__init__" (defArgs (inClass (topS 3) 0)) (defBody (inClass (topS 3) 0)) (defScope (inClass (topS 3) 0)) [] [] (He.ma K (He.ga K "Twice") "__init__") fd
  d_Hidden___init__ : ∃ fd, FunD K "__init__" "Hidden.__init__" (defArgs (inClass (topS 4) 0)) (defBody (inClass (topS 4) 0)) (defScope (inClass (topS 4) 0)) [] [] (He.ma K (He.ga K "Hidden") "__init__") fd
  d_Stranger___init__ : ∃ fd, FunD K "__init__" "Stranger.__init__" (defArgs (inClass (topS 5) 0)) (defBody (inClass (topS 5) 0)) (defScope (inClass (topS 5) 0)) [] [] (He.ma K (He.ga K "Stranger") "__init__") fd
  d_NoText___init__ : ∃ fd, FunD K "__init__" "NoText.__init__" (defArgs (inClass (topS 8) 0)) (defBody (inClass (topS 8) 0)) (defScope (inClass (topS 8) 0)) [] [] (He.ma K (He.ga K "NoText") "__init__") fd
  d_is_name : ∃ fd, FunD K "is_name" "is_name" (defArgs (topS 13)) (defBody (topS 13)) (defScope (topS 13)) [] [] (He.ga K "is_name") fd
  f_is_name : mg "is_name" = some (.ref (He.ga K "is_name"))
  d_is_whole : ∃ fd, FunD K "is_whole" "is_whole" (defArgs (topS 14)) (defBody (topS 14)) (defScope (topS 14)) [] [] (He.ga K "is_whole") fd
  f_is_whole : mg "is_whole" = some (.ref (He.ga K "is_whole"))
  d_is_small : ∃ fd, FunD K "is_small" "is_small" (defArgs (topS 15)) (defBody (topS 15)) (defScope (topS 15)) [] [] (He.ga K "is_small") fd
  f_is_small : mg "is_small" = some (.ref (He.ga K "is_small"))
  d_within : ∃ fd, FunD K "within" "within" (defArgs (topS 16)) (defBody (topS 16)) (defScope (topS 16)) [] [] (He.ga K "within") fd
  f_within : mg "within" = some (.ref (He.ga K "within"))
  d_in_order : ∃ fd, FunD K "in_order" "in_order" (defArgs (topS 17)) (defBody (topS 17)) (defScope (topS 17)) [] [] (He.ga K "in_order") fd
  f_in_order : mg "in_order" = some (.ref (He.ga K "in_order"))
  d_is_row : ∃ fd, FunD K "is_row" "is_row" (defArgs (topS 24)) (defBody (topS 24)) (defScope (topS 24)) [] [] (He.ga K "is_row") fd
  f_is_row : mg "is_row" = some (.ref (He.ga K "is_row"))
  d_are_rows : ∃ fd, FunD K "are_rows" "are_rows" (defArgs (topS 25)) (defBody (topS 25)) (defScope (topS 25)) [] [] (He.ga K "are_rows") fd
  f_are_rows : mg "are_rows" = some (.ref (He.ga K "are_rows"))
  d_parts_of : ∃ fd, FunD K "parts_of" "parts_of" (defArgs (topS 26)) (defBody (topS 26)) (defScope (topS 26)) [] [] (He.ga K "parts_of") fd
  f_parts_of : mg "parts_of" = some (.ref (He.ga K "parts_of"))
  d_is_body : ∃ fd, FunD K "is_body" "is_body" (defArgs (topS 27)) (defBody (topS 27)) (defScope (topS 27)) [] [] (He.ga K "is_body") fd
  f_is_body : mg "is_body" = some (.ref (He.ga K "is_body"))
  d_is_function : ∃ fd, FunD K "is_function" "is_function" (defArgs (topS 28)) (defBody (topS 28)) (defScope (topS 28)) [] [] (He.ga K "is_function") fd
  f_is_function : mg "is_function" = some (.ref (He.ga K "is_function"))
  d_is_built : ∃ fd, FunD K "is_built" "is_built" (defArgs (topS 29)) (defBody (topS 29)) (defScope (topS 29)) [] [] (He.ga K "is_built") fd
  f_is_built : mg "is_built" = some (.ref (He.ga K "is_built"))
  d_row_names : ∃ fd, FunD K "row_names" "row_names" (defArgs (topS 30)) (defBody (topS 30)) (defScope (topS 30)) [] [] (He.ga K "row_names") fd
  f_row_names : mg "row_names" = some (.ref (He.ga K "row_names"))
  d_look_unlike : ∃ fd, FunD K "look_unlike" "look_unlike" (defArgs (topS 31)) (defBody (topS 31)) (defScope (topS 31)) [] [] (He.ga K "look_unlike") fd
  f_look_unlike : mg "look_unlike" = some (.ref (He.ga K "look_unlike"))
  d_look_named : ∃ fd, FunD K "look_named" "look_named" (defArgs (topS 32)) (defBody (topS 32)) (defScope (topS 32)) [] [] (He.ga K "look_named") fd
  f_look_named : mg "look_named" = some (.ref (He.ga K "look_named"))
  d_looked : ∃ fd, FunD K "looked" "looked" (defArgs (topS 33)) (defBody (topS 33)) (defScope (topS 33)) [] [] (He.ga K "looked") fd
  f_looked : mg "looked" = some (.ref (He.ga K "looked"))
  d_is_figures : ∃ fd, FunD K "is_figures" "is_figures" (defArgs (topS 36)) (defBody (topS 36)) (defScope (topS 36)) [] [] (He.ga K "is_figures") fd
  f_is_figures : mg "is_figures" = some (.ref (He.ga K "is_figures"))
  d_is_marked : ∃ fd, FunD K "is_marked" "is_marked" (defArgs (topS 37)) (defBody (topS 37)) (defScope (topS 37)) [] [] (He.ga K "is_marked") fd
  f_is_marked : mg "is_marked" = some (.ref (He.ga K "is_marked"))
  d_PartReader___init__ : ∃ fd, FunD K "__init__" "PartReader.__init__" (defArgs (inClass (topS 38) 0)) (defBody (inClass (topS 38) 0)) (defScope (inClass (topS 38) 0)) [] [] (He.ma K (He.ga K "PartReader") "__init__") fd
  i_PartReader : Mk K (He.ga K "PartReader") (He.ma K (He.ga K "PartReader") "__init__")
  d_PartReader_refuse : ∃ fd, FunD K "refuse" "PartReader.refuse" (defArgs (inClass (topS 38) 1)) (defBody (inClass (topS 38) 1)) (defScope (inClass (topS 38) 1)) [] [] (He.ma K (He.ga K "PartReader") "refuse") fd
  m_PartReader_refuse : Meth K (He.ga K "PartReader") "refuse" (He.ma K (He.ga K "PartReader") "refuse")
  d_PartReader_now : ∃ fd, FunD K "now" "PartReader.now" (defArgs (inClass (topS 38) 2)) (defBody (inClass (topS 38) 2)) (defScope (inClass (topS 38) 2)) [] [] (He.ma K (He.ga K "PartReader") "now") fd
  m_PartReader_now : Meth K (He.ga K "PartReader") "now" (He.ma K (He.ga K "PartReader") "now")
  d_PartReader_mark : ∃ fd, FunD K "mark" "PartReader.mark" (defArgs (inClass (topS 38) 3)) (defBody (inClass (topS 38) 3)) (defScope (inClass (topS 38) 3)) [] [] (He.ma K (He.ga K "PartReader") "mark") fd
  m_PartReader_mark : Meth K (He.ga K "PartReader") "mark" (He.ma K (He.ga K "PartReader") "mark")
  d_PartReader_begin : ∃ fd, FunD K "begin" "PartReader.begin" (defArgs (inClass (topS 38) 4)) (defBody (inClass (topS 38) 4)) (defScope (inClass (topS 38) 4)) [] [] (He.ma K (He.ga K "PartReader") "begin") fd
  m_PartReader_begin : Meth K (He.ga K "PartReader") "begin" (He.ma K (He.ga K "PartReader") "begin")
  d_PartReader_let_rows : ∃ fd, FunD K "let_rows" "PartReader.let_rows" (defArgs (inClass (topS 38) 5)) (defBody (inClass (topS 38) 5)) (defScope (inClass (topS 38) 5)) [] [] (He.ma K (He.ga K "PartReader") "let_rows") fd
  m_PartReader_let_rows : Meth K (He.ga K "PartReader") "let_rows" (He.ma K (He.ga K "PartReader") "let_rows")
  d_PartReader_part : ∃ fd, FunD K "part" "PartReader.part" (defArgs (inClass (topS 38) 6)) (defBody (inClass (topS 38) 6)) (defScope (inClass (topS 38) 6)) [] [] (He.ma K (He.ga K "PartReader") "part") fd
  m_PartReader_part : Meth K (He.ga K "PartReader") "part" (He.ma K (He.ga K "PartReader") "part")
  d_PartReader_whole : ∃ fd, FunD K "whole" "PartReader.whole" (defArgs (inClass (topS 38) 7)) (defBody (inClass (topS 38) 7)) (defScope (inClass (topS 38) 7)) [] [] (He.ma K (He.ga K "PartReader") "whole") fd
  m_PartReader_whole : Meth K (He.ga K "PartReader") "whole" (He.ma K (He.ga K "PartReader") "whole")
  d_read_part : ∃ fd, FunD K "read_part" "read_part" (defArgs (topS 39)) (defBody (topS 39)) (defScope (topS 39)) [] [] (He.ga K "read_part") fd
  f_read_part : mg "read_part" = some (.ref (He.ga K "read_part"))
  d_read_function : ∃ fd, FunD K "read_function" "read_function" (defArgs (topS 40)) (defBody (topS 40)) (defScope (topS 40)) [] [] (He.ga K "read_function") fd
  f_read_function : mg "read_function" = some (.ref (He.ga K "read_function"))
  d_read : ∃ fd, FunD K "read" "read" (defArgs (topS 41)) (defBody (topS 41)) (defScope (topS 41)) [] [] (He.ga K "read") fd
  f_read : mg "read" = some (.ref (He.ga K "read"))
  d_law_pen : ∃ fd, FunD K "_law_pen" "_law_pen" (defArgs (topS 43)) (defBody (topS 43)) (defScope (topS 43)) [] [] (He.ga K "_law_pen") fd
  f_law_pen : mg "_law_pen" = some (.ref (He.ga K "_law_pen"))
  d_law_draw : ∃ fd, FunD K "_law_draw" "_law_draw" (defArgs (topS 44)) (defBody (topS 44)) (defScope (topS 44)) [] [] (He.ga K "_law_draw") fd
  f_law_draw : mg "_law_draw" = some (.ref (He.ga K "_law_draw"))
  d_law_names : ∃ fd, FunD K "_law_names" "_law_names" (defArgs (topS 45)) (defBody (topS 45)) (defScope (topS 45)) [] [] (He.ga K "_law_names") fd
  f_law_names : mg "_law_names" = some (.ref (He.ga K "_law_names"))
  d_law_base : ∃ fd, FunD K "_law_base" "_law_base" (defArgs (topS 46)) (defBody (topS 46)) (defScope (topS 46)) [] [] (He.ga K "_law_base") fd
  f_law_base : mg "_law_base" = some (.ref (He.ga K "_law_base"))
  d_law_text : ∃ fd, FunD K "_law_text" "_law_text" (defArgs (topS 47)) (defBody (topS 47)) (defScope (topS 47)) [] [] (He.ga K "_law_text") fd
  f_law_text : mg "_law_text" = some (.ref (He.ga K "_law_text"))
  d_law_is_name : ∃ fd, FunD K "_law_is_name" "_law_is_name" (defArgs (topS 48)) (defBody (topS 48)) (defScope (topS 48)) [] [] (He.ga K "_law_is_name") fd
  f_law_is_name : mg "_law_is_name" = some (.ref (He.ga K "_law_is_name"))
  d_law_inner : ∃ fd, FunD K "_law_inner" "_law_inner" (defArgs (topS 49)) (defBody (topS 49)) (defScope (topS 49)) [] [] (He.ga K "_law_inner") fd
  f_law_inner : mg "_law_inner" = some (.ref (He.ga K "_law_inner"))
  d_law_is_body : ∃ fd, FunD K "_law_is_body" "_law_is_body" (defArgs (topS 50)) (defBody (topS 50)) (defScope (topS 50)) [] [] (He.ga K "_law_is_body") fd
  f_law_is_body : mg "_law_is_body" = some (.ref (He.ga K "_law_is_body"))
  d_law_is_function : ∃ fd, FunD K "_law_is_function" "_law_is_function" (defArgs (topS 51)) (defBody (topS 51)) (defScope (topS 51)) [] [] (He.ga K "_law_is_function") fd
  f_law_is_function : mg "_law_is_function" = some (.ref (He.ga K "_law_is_function"))
  d_law_lets : ∃ fd, FunD K "_law_lets" "_law_lets" (defArgs (topS 52)) (defBody (topS 52)) (defScope (topS 52)) [] [] (He.ga K "_law_lets") fd
  f_law_lets : mg "_law_lets" = some (.ref (He.ga K "_law_lets"))
  d_law_strange : ∃ fd, FunD K "_law_strange" "_law_strange" (defArgs (topS 53)) (defBody (topS 53)) (defScope (topS 53)) [] [] (He.ga K "_law_strange") fd
  f_law_strange : mg "_law_strange" = some (.ref (He.ga K "_law_strange"))
  d_law_due : ∃ fd, FunD K "_law_due" "_law_due" (defArgs (topS 54)) (defBody (topS 54)) (defScope (topS 54)) [] [] (He.ga K "_law_due") fd
  f_law_due : mg "_law_due" = some (.ref (He.ga K "_law_due"))
  d_law_figures : ∃ fd, FunD K "_law_figures" "_law_figures" (defArgs (topS 55)) (defBody (topS 55)) (defScope (topS 55)) [] [] (He.ga K "_law_figures") fd
  f_law_figures : mg "_law_figures" = some (.ref (He.ga K "_law_figures"))
  d_law_marked : ∃ fd, FunD K "_law_marked" "_law_marked" (defArgs (topS 56)) (defBody (topS 56)) (defScope (topS 56)) [] [] (He.ga K "_law_marked") fd
  f_law_marked : mg "_law_marked" = some (.ref (He.ga K "_law_marked"))
  d_law_part_wrong : ∃ fd, FunD K "_law_part_wrong" "_law_part_wrong" (defArgs (topS 57)) (defBody (topS 57)) (defScope (topS 57)) [] [] (He.ga K "_law_part_wrong") fd
  f_law_part_wrong : mg "_law_part_wrong" = some (.ref (He.ga K "_law_part_wrong"))
  d_law_row_wrong : ∃ fd, FunD K "_law_row_wrong" "_law_row_wrong" (defArgs (topS 58)) (defBody (topS 58)) (defScope (topS 58)) [] [] (He.ga K "_law_row_wrong") fd
  f_law_row_wrong : mg "_law_row_wrong" = some (.ref (He.ga K "_law_row_wrong"))
  d_law_built : ∃ fd, FunD K "_law_built" "_law_built" (defArgs (topS 59)) (defBody (topS 59)) (defScope (topS 59)) [] [] (He.ga K "_law_built") fd
  f_law_built : mg "_law_built" = some (.ref (He.ga K "_law_built"))
  d_law_read : ∃ fd, FunD K "_law_read" "_law_read" (defArgs (topS 60)) (defBody (topS 60)) (defScope (topS 60)) [] [] (He.ga K "_law_read") fd
  f_law_read : mg "_law_read" = some (.ref (He.ga K "_law_read"))
  d_law_reads : ∃ fd, FunD K "_law_reads" "_law_reads" (defArgs (topS 61)) (defBody (topS 61)) (defScope (topS 61)) [] [] (He.ga K "_law_reads") fd
  f_law_reads : mg "_law_reads" = some (.ref (He.ga K "_law_reads"))
  d_law_right : ∃ fd, FunD K "_law_right" "_law_right" (defArgs (topS 62)) (defBody (topS 62)) (defScope (topS 62)) [] [] (He.ga K "_law_right") fd
  f_law_right : mg "_law_right" = some (.ref (He.ga K "_law_right"))
  d_law_wide : ∃ fd, FunD K "_law_wide" "_law_wide" (defArgs (topS 63)) (defBody (topS 63)) (defScope (topS 63)) [] [] (He.ga K "_law_wide") fd
  f_law_wide : mg "_law_wide" = some (.ref (He.ga K "_law_wide"))
  d_law_great : ∃ fd, FunD K "_law_great" "_law_great" (defArgs (topS 64)) (defBody (topS 64)) (defScope (topS 64)) [] [] (He.ga K "_law_great") fd
  f_law_great : mg "_law_great" = some (.ref (He.ga K "_law_great"))
  d_law_by_rows : ∃ fd, FunD K "_law_by_rows" "_law_by_rows" (defArgs (topS 65)) (defBody (topS 65)) (defScope (topS 65)) [] [] (He.ga K "_law_by_rows") fd
  f_law_by_rows : mg "_law_by_rows" = some (.ref (He.ga K "_law_by_rows"))
  d_law : ∃ fd, FunD K "law" "law" (defArgs (topS 66)) (defBody (topS 66)) (defScope (topS 66)) [] [] (He.ga K "law") fd
  f_law : mg "law" = some (.ref (He.ga K "law"))
  n_str : mg "str" = none
  n_isinstance : mg "isinstance" = none
  n_len : mg "len" = none
  n_all : mg "all" = none
  n_int : mg "int" = none
  n_bool : mg "bool" = none
  n_abs : mg "abs" = none
  n_list : mg "list" = none
  n_tuple : mg "tuple" = none
  n_range : mg "range" = none
  n_enumerate : mg "enumerate" = none
  n_max : mg "max" = none
  n_ValueError : mg "ValueError" = none
  n_min : mg "min" = none
  v_LETTERS : ∃ u, mg "LETTERS" = some u ∧ RelV (.str "abcdefghijklmnopqrstuvwxyz") u
  g_PARTS : mg "PARTS" = some (.ref (He.ga K "PARTS"))
  k_PARTS : KTab K w (He.ga K "PARTS") [("give", V.int 2), ("plus", V.int 2), ("less", V.int 2), ("times", V.int 2), ("below", V.int 2), ("when", V.int 3), ("pair", V.int 2), ("left", V.int 1), ("right", V.int 1)]
  v_MOST_ROWS : ∃ u, mg "MOST_ROWS" = some u ∧ RelV (.int 4) u
  v_DEEPEST : ∃ u, mg "DEEPEST" = some u ∧ RelV (.int 12) u
  v_MOST_PARTS : ∃ u, mg "MOST_PARTS" = some u ∧ RelV (.int 60) u
  v_MOST_NAMES : ∃ u, mg "MOST_NAMES" = some u ∧ RelV (.int 4) u
  v_MOST_FUNCTIONS : ∃ u, mg "MOST_FUNCTIONS" = some u ∧ RelV (.int 8) u
  v_FIGURES : ∃ u, mg "FIGURES" = some u ∧ RelV (.str "0123456789") u
abbrev st_Twice___init__ : Stmt := inClass (topS 3) 0
theorem sc_Twice___init__ : FnScope ["self", "name"] ["self", "name"] (defScope st_Twice___init__) := ⟨rfl, rfl, rfl, by decide +kernel, rfl, by decide +kernel, by decide +kernel⟩
theorem mk_Twice___init__ {P : Program} {w : World} {K : PySem.W.Frag} {mg : Str → Option Value} {base : Heap} (T : TX w K mg) {j : Nat} {sp : Sp}
    (pure_ : PureOk 2 sp (t_Twice___init__ K w ) 2) : Xal P w K mg base (j + 2) "Twice" (He.ga K "Twice") sp := by
  obtain ⟨fd, F⟩ := T.d_Twice___init__
  refine xal_mk F T.errs.i_Twice T.errs.ti_Twice T.errs.o_Twice T.g_Twice sc_Twice___init__ (F.bindsN fun _ _ _ _ _ _ us hl => match us, hl with | [_, _], _ => rfl) pure_.len fun cdv A outer s H vs Q E hr h => ?_
  refine ⟨t_Twice___init__ K w , PSs.nox ?_, pure_.run vs H Q E h⟩
  exact (pss_one (ps_ost (pv 0) (pv 1)))
abbrev st_Hidden___init__ : Stmt := inClass (topS 4) 0
theorem sc_Hidden___init__ : FnScope ["self", "name"] ["self", "name"] (defScope st_Hidden___init__) := ⟨rfl, rfl, rfl, by decide +kernel, rfl, by decide +kernel, by decide +kernel⟩
theorem mk_Hidden___init__ {P : Program} {w : World} {K : PySem.W.Frag} {mg : Str → Option Value} {base : Heap} (T : TX w K mg) {j : Nat} {sp : Sp}
    (pure_ : PureOk 2 sp (t_Hidden___init__ K w ) 2) : Xal P w K mg base (j + 2) "Hidden" (He.ga K "Hidden") sp := by
  obtain ⟨fd, F⟩ := T.d_Hidden___init__
  refine xal_mk F T.errs.i_Hidden T.errs.ti_Hidden T.errs.o_Hidden T.g_Hidden sc_Hidden___init__ (F.bindsN fun _ _ _ _ _ _ us hl => match us, hl with | [_, _], _ => rfl) pure_.len fun cdv A outer s H vs Q E hr h => ?_
  refine ⟨t_Hidden___init__ K w , PSs.nox ?_, pure_.run vs H Q E h⟩
  exact (pss_one (ps_ost (pv 0) (pv 1)))
abbrev st_Stranger___init__ : Stmt := inClass (topS 5) 0
theorem sc_Stranger___init__ : FnScope ["self", "name"] ["self", "name"] (defScope st_Stranger___init__) := ⟨rfl, rfl, rfl, by decide +kernel, rfl, by decide +kernel, by decide +kernel⟩
theorem mk_Stranger___init__ {P : Program} {w : World} {K : PySem.W.Frag} {mg : Str → Option Value} {base : Heap} (T : TX w K mg) {j : Nat} {sp : Sp}
    (pure_ : PureOk 2 sp (t_Stranger___init__ K w ) 2) : Xal P w K mg base (j + 2) "Stranger" (He.ga K "Stranger") sp := by
  obtain ⟨fd, F⟩ := T.d_Stranger___init__
  refine xal_mk F T.errs.i_Stranger T.errs.ti_Stranger T.errs.o_Stranger T.g_Stranger sc_Stranger___init__ (F.bindsN fun _ _ _ _ _ _ us hl => match us, hl with | [_, _], _ => rfl) pure_.len fun cdv A outer s H vs Q E hr h => ?_
  refine ⟨t_Stranger___init__ K w , PSs.nox ?_, pure_.run vs H Q E h⟩
  exact (pss_one (ps_ost (pv 0) (pv 1)))
abbrev st_NoText___init__ : Stmt := inClass (topS 8) 0
theorem sc_NoText___init__ : FnScope ["self", "row", "word"] ["self", "row", "word"] (defScope st_NoText___init__) := ⟨rfl, rfl, rfl, by decide +kernel, rfl, by decide +kernel, by decide +kernel⟩
theorem mk_NoText___init__ {P : Program} {w : World} {K : PySem.W.Frag} {mg : Str → Option Value} {base : Heap} (T : TX w K mg) {j : Nat} {sp : Sp}
    (pure_ : PureOk 3 sp (t_NoText___init__ K w ) 3) : Xal P w K mg base (j + 2) "NoText" (He.ga K "NoText") sp := by
  obtain ⟨fd, F⟩ := T.d_NoText___init__
  refine xal_mk F T.errt.i_NoText T.errt.ti_NoText T.errt.o_NoText T.g_NoText sc_NoText___init__ (F.bindsN fun _ _ _ _ _ _ us hl => match us, hl with | [_, _, _], _ => rfl) pure_.len fun cdv A outer s H vs Q E hr h => ?_
  refine ⟨t_NoText___init__ K w , PSs.nox ?_, pure_.run vs H Q E h⟩
  exact (pss_cons (ps_ost (pv 0) (pv 1))
  (pss_one (ps_ost (pv 0) (pv 2))))
abbrev st_is_name : Stmt := topS 13
theorem sc_is_name : FnScope ["thing", "sign"] ["thing"] (defScope st_is_name) := ⟨rfl, rfl, rfl, by decide +kernel, rfl, by decide +kernel, by decide +kernel⟩
theorem mk_is_name {P : Program} {w : World} {K : PySem.W.Frag} {mg : Str → Option Value} {base : Heap} (T : TX w K mg) {j : Nat} {sp : Sp}
    (pure_ : PureOk 1 sp (t_is_name K w ) 2) : Cal P w K mg base (j + 1) "is_name" sp := by
  obtain ⟨fd, F⟩ := T.d_is_name
  refine cal_mk F T.f_is_name sc_is_name (F.bindsN fun _ _ _ _ _ _ us hl => match us, hl with | [_], _ => rfl) pure_.len fun cdv A outer s H vs Q E hr h => ?_
  refine ⟨t_is_name K w , PSs.nox ?_, pure_.run vs H Q E h⟩
  exact (pss_cons (ps_if (PW.pt (pw_or (pt_not (pt_tru (pe_callB call_isiG (by rfl) T.n_isinstance (by decide +kernel) (pa_cons (pv 0) (pa_cons (pe_bltn (v := .ty "str") rfl T.n_str (by decide +kernel) rfl) pa_nil))) (by intro _; rfl))) (pw_or1 (pt_not (pt_chain op_le op_le pe_int (pe_callB call_lenG (by rfl) T.n_len (by decide +kernel) (pa_cons (pv 0) pa_nil)) pe_int))))) (pss_one (ps_ret pe_bl)) pss_nil)
  (pss_one (ps_ret (pe_callB (cr_all rfl) (by rfl) T.n_all (by decide +kernel) (pa_cons (pe_lc (own := [("sign", 1)]) (g := (gName 1)) (tt := tYes) rfl sc_is_name.nd (pi_seq (pv 0)) (blkOk_by (by kernel_rfl)) (fun _ _ _ _ _ => (pg_name (i := 1) sc_is_name.nd rfl (by first | exact Or.inl rfl | exact Or.inr rfl))) (fun _ _ _ _ _ => pts_nil) (fun _ _ _ _ _ => (pe_cmpR (op_inG (hu_of hr)) (pv 1) (pe_gc rfl T.v_LETTERS) (by rfl)))) pa_nil)))))
abbrev st_is_whole : Stmt := topS 14
theorem sc_is_whole : FnScope ["thing"] ["thing"] (defScope st_is_whole) := ⟨rfl, rfl, rfl, by decide +kernel, rfl, by decide +kernel, by decide +kernel⟩
theorem mk_is_whole {P : Program} {w : World} {K : PySem.W.Frag} {mg : Str → Option Value} {base : Heap} (T : TX w K mg) {j : Nat} {sp : Sp}
    (pure_ : PureOk 1 sp (t_is_whole K w ) 1) : Cal P w K mg base (j + 1) "is_whole" sp := by
  obtain ⟨fd, F⟩ := T.d_is_whole
  refine cal_mk F T.f_is_whole sc_is_whole (F.bindsN fun _ _ _ _ _ _ us hl => match us, hl with | [_], _ => rfl) pure_.len fun cdv A outer s H vs Q E hr h => ?_
  refine ⟨t_is_whole K w , PSs.nox ?_, pure_.run vs H Q E h⟩
  exact (pss_one (ps_ret (pe_andT (pe_callB call_isiG (by rfl) T.n_isinstance (by decide +kernel) (pa_cons (pv 0) (pa_cons (pe_bltn (v := .ty "int") rfl T.n_int (by decide +kernel) rfl) pa_nil))) (pe_one (pe_notT (pe_callB call_isiG (by rfl) T.n_isinstance (by decide +kernel) (pa_cons (pv 0) (pa_cons (pe_bltn (v := .ty "bool") rfl T.n_bool (by decide +kernel) rfl) pa_nil))))))))
abbrev st_is_small : Stmt := topS 15
theorem sc_is_small : FnScope ["number"] ["number"] (defScope st_is_small) := ⟨rfl, rfl, rfl, by decide +kernel, rfl, by decide +kernel, by decide +kernel⟩
theorem mk_is_small {P : Program} {w : World} {K : PySem.W.Frag} {mg : Str → Option Value} {base : Heap} (T : TX w K mg) {j : Nat} {sp : Sp}
    (pure_ : PureOk 1 sp (t_is_small K w ) 1) : Cal P w K mg base (j + 1) "is_small" sp := by
  obtain ⟨fd, F⟩ := T.d_is_small
  refine cal_mk F T.f_is_small sc_is_small (F.bindsN fun _ _ _ _ _ _ us hl => match us, hl with | [_], _ => rfl) pure_.len fun cdv A outer s H vs Q E hr h => ?_
  refine ⟨t_is_small K w , PSs.nox ?_, pure_.run vs H Q E h⟩
  exact (pss_one (ps_ret (pe_cmpR op_lt (pe_callB call_abs (by rfl) T.n_abs (by decide +kernel) (pa_cons (pv 0) pa_nil)) (pe_op op_pow pe_int pe_int) (nomark _))))
abbrev st_within : Stmt := topS 16
theorem sc_within : FnScope ["part", "name", "one"] ["part"] (defScope st_within) := ⟨rfl, rfl, rfl, by decide +kernel, rfl, by decide +kernel, by decide +kernel⟩
theorem mk_within {P : Program} {w : World} {K : PySem.W.Frag} {mg : Str → Option Value} {base : Heap} (T : TX w K mg) {j : Nat} {sp : Sp}
    (pure_ : PureOk 1 sp (t_within K w ) 3) : Cal P w K mg base (j + 1) "within" sp := by
  obtain ⟨fd, F⟩ := T.d_within
  refine cal_mk F T.f_within sc_within (F.bindsN fun _ _ _ _ _ _ us hl => match us, hl with | [_], _ => rfl) pure_.len fun cdv A outer s H vs Q E hr h => ?_
  refine ⟨t_within K w , PSs.nox ?_, pure_.run vs H Q E h⟩
  exact (pss_cons (ps_if (pt_cmpR (op_inG (hu_of hr)) (pe_ixG (hu_of hr) (pv 0) pe_int (fun _ _ => rfl)) (pe_glob (v := .ref (He.ga K "PARTS")) rfl T.g_PARTS rfl) (by rfl)) (pss_one (ps_ret (pe_callTy (call_listG rfl) (by rfl) T.n_list (by decide +kernel) (pa_cons (pe_slice sl_any (pv 0) (po_some pe_int) po_none) pa_nil)))) pss_nil)
  (pss_cons (ps_if (pt_cmpR (op_eqG (hu2_of hr)) (pe_ixG (hu_of hr) (pv 0) pe_int (fun _ _ => rfl)) pe_str (nomark _)) (pss_one (ps_ret (pe_op op_addG (pe_lc (own := [("name", 1), ("one", 2)]) (g := (gTup K 2 (gCons (gName 1) (gCons (gName 2) gNil)))) (tt := tYes) rfl sc_within.nd (pi_seq (pe_ixG (hu_of hr) (pv 0) pe_int (fun _ _ => rfl))) (blkOk_by (by kernel_rfl)) (fun _ _ _ _ _ => (pg_tup rfl (pgs_cons (pg_name (i := 1) sc_within.nd rfl (by first | exact Or.inl rfl | exact Or.inr rfl)) (pgs_cons (pg_name (i := 2) sc_within.nd rfl (by first | exact Or.inl rfl | exact Or.inr rfl)) pgs_nil)))) (fun _ _ _ _ _ => pts_nil) (fun _ _ _ _ _ => (pv 2))) (pe_lstN (pa_cons (pe_ixG (hu_of hr) (pv 0) pe_int (fun _ _ => rfl)) pa_nil))))) pss_nil)
  (pss_one (ps_ret (pe_lstN pa_nil)))))
abbrev st_in_order : Stmt := topS 17
theorem sc_in_order : FnScope ["part", "found", "pile", "one"] ["part"] (defScope st_in_order) := ⟨rfl, rfl, rfl, by decide +kernel, rfl, by decide +kernel, by decide +kernel⟩
theorem mk_in_order {P : Program} {w : World} {K : PySem.W.Frag} {mg : Str → Option Value} {base : Heap} (T : TX w K mg) {j : Nat} {sp : Sp} {s_within : Sp} (c_within : Cal P w K mg base j "within" s_within)
    (pure_ : PureOk 1 sp (t_in_order K w s_within) 4) : Cal P w K mg base (j + 1) "in_order" sp := by
  obtain ⟨fd, F⟩ := T.d_in_order
  refine cal_mk F T.f_in_order sc_in_order (F.bindsN fun _ _ _ _ _ _ us hl => match us, hl with | [_], _ => rfl) pure_.len fun cdv A outer s H vs Q E hr h => ?_
  refine ⟨t_in_order K w s_within, PSs.nox ?_, pure_.run vs H Q E h⟩
  exact (pss_cons (ps_set (i := 1) sc_in_order.nd rfl (Or.inl rfl) (pe_lstN pa_nil))
  (pss_cons (ps_set (i := 2) sc_in_order.nd rfl (Or.inl rfl) (pe_lstN (pa_cons (pv 0) pa_nil)))
  (pss_cons (ps_while PassesOwn.never (pt_cmpR (op_neG (hu2_of hr)) (pv 2) (pe_lstN pa_nil) (nomark _)) (pss_cons (ps_set (i := 3) sc_in_order.nd rfl (Or.inl rfl) (pe_bm0 PySem.F.plainAttrs_list PySem.F.slot_list_pop PySem.F.type_list_pop mt_popG (pv 2)))
  (pss_cons (ps_expr (pe_bm PySem.F.plainAttrs_list PySem.F.slot_list_append PySem.F.type_list_append mt_appendG (pv 1) (pa_cons (pv 3) pa_nil)))
  (pss_one (ps_expr (pe_bm PySem.F.plainAttrs_list PySem.F.slot_list_extend PySem.F.type_list_extend mt_extendG (pv 2) (pa_cons (pe_revG (pe_cal c_within hr rfl (pa_cons (pv 3) pa_nil))) pa_nil)))))))
  (pss_one (ps_ret (pv 1))))))
abbrev st_is_row : Stmt := topS 24
theorem sc_is_row : FnScope ["thing"] ["thing"] (defScope st_is_row) := ⟨rfl, rfl, rfl, by decide +kernel, rfl, by decide +kernel, by decide +kernel⟩
theorem mk_is_row {P : Program} {w : World} {K : PySem.W.Frag} {mg : Str → Option Value} {base : Heap} (T : TX w K mg) {j : Nat} {sp : Sp} {s_is_name : Sp} (c_is_name : Cal P w K mg base j "is_name" s_is_name)
    (pure_ : PureOk 1 sp (t_is_row K w s_is_name) 1) : Cal P w K mg base (j + 1) "is_row" sp := by
  obtain ⟨fd, F⟩ := T.d_is_row
  refine cal_mk F T.f_is_row sc_is_row (F.bindsN fun _ _ _ _ _ _ us hl => match us, hl with | [_], _ => rfl) pure_.len fun cdv A outer s H vs Q E hr h => ?_
  refine ⟨t_is_row K w s_is_name, PSs.nox ?_, pure_.run vs H Q E h⟩
  exact (pss_one (ps_ret (pe_andT (pe_callB call_isiG (by rfl) T.n_isinstance (by decide +kernel) (pa_cons (pv 0) (pa_cons (pe_bltn (v := .ty "tuple") rfl T.n_tuple (by decide +kernel) rfl) pa_nil))) (pe_andT (pe_cmpR (op_eqG (hu2_of hr)) (pe_callB call_lenG (by rfl) T.n_len (by decide +kernel) (pa_cons (pv 0) pa_nil)) pe_int (nomark _)) (pe_one (pe_cal c_is_name hr rfl (pa_cons (pe_ixG (hu_of hr) (pv 0) pe_int (fun _ _ => rfl)) pa_nil)))))))
abbrev st_are_rows : Stmt := topS 25
theorem sc_are_rows : FnScope ["thing", "row"] ["thing"] (defScope st_are_rows) := ⟨rfl, rfl, rfl, by decide +kernel, rfl, by decide +kernel, by decide +kernel⟩
theorem mk_are_rows {P : Program} {w : World} {K : PySem.W.Frag} {mg : Str → Option Value} {base : Heap} (T : TX w K mg) {j : Nat} {sp : Sp} {s_is_row : Sp} (c_is_row : Cal P w K mg base j "is_row" s_is_row)
    (pure_ : PureOk 1 sp (t_are_rows K w s_is_row) 2) : Cal P w K mg base (j + 1) "are_rows" sp := by
  obtain ⟨fd, F⟩ := T.d_are_rows
  refine cal_mk F T.f_are_rows sc_are_rows (F.bindsN fun _ _ _ _ _ _ us hl => match us, hl with | [_], _ => rfl) pure_.len fun cdv A outer s H vs Q E hr h => ?_
  refine ⟨t_are_rows K w s_is_row, PSs.nox ?_, pure_.run vs H Q E h⟩
  exact (pss_one (ps_ret (pe_andT (pe_callB call_isiG (by rfl) T.n_isinstance (by decide +kernel) (pa_cons (pv 0) (pa_cons (pe_bltn (v := .ty "tuple") rfl T.n_tuple (by decide +kernel) rfl) pa_nil))) (pe_andT (pe_chain op_le op_le pe_int (pe_callB call_lenG (by rfl) T.n_len (by decide +kernel) (pa_cons (pv 0) pa_nil)) (pe_gc rfl T.v_MOST_ROWS)) (pe_one (pe_callB (cr_all rfl) (by rfl) T.n_all (by decide +kernel) (pa_cons (pe_lc (own := [("row", 1)]) (g := (gName 1)) (tt := tYes) rfl sc_are_rows.nd (pi_seq (pv 0)) (blkOk_by (by kernel_rfl)) (fun _ _ _ _ _ => (pg_name (i := 1) sc_are_rows.nd rfl (by first | exact Or.inl rfl | exact Or.inr rfl))) (fun _ _ _ _ _ => pts_nil) (fun _ _ _ _ _ => (pe_cal c_is_row hr rfl (pa_cons (pv 1) pa_nil)))) pa_nil)))))))
abbrev st_parts_of : Stmt := topS 26
theorem sc_parts_of : FnScope ["thing", "row"] ["thing"] (defScope st_parts_of) := ⟨rfl, rfl, rfl, by decide +kernel, rfl, by decide +kernel, by decide +kernel⟩
theorem mk_parts_of {P : Program} {w : World} {K : PySem.W.Frag} {mg : Str → Option Value} {base : Heap} (T : TX w K mg) {j : Nat} {sp : Sp} {s_is_whole s_is_small s_is_name s_are_rows : Sp} (c_is_whole : Cal P w K mg base j "is_whole" s_is_whole) (c_is_small : Cal P w K mg base j "is_small" s_is_small) (c_is_name : Cal P w K mg base j "is_name" s_is_name) (c_are_rows : Cal P w K mg base j "are_rows" s_are_rows)
    (pure_ : PureOk 1 sp (t_parts_of K w s_is_whole s_is_small s_is_name s_are_rows) 2) : Cal P w K mg base (j + 1) "parts_of" sp := by
  obtain ⟨fd, F⟩ := T.d_parts_of
  refine cal_mk F T.f_parts_of sc_parts_of (F.bindsN fun _ _ _ _ _ _ us hl => match us, hl with | [_], _ => rfl) pure_.len fun cdv A outer s H vs Q E hr h => ?_
  refine ⟨t_parts_of K w s_is_whole s_is_small s_is_name s_are_rows, PSs.nox ?_, pure_.run vs H Q E h⟩
  exact (pss_cons (ps_if (PW.pt (pw_or (pt_not (pt_tru (pe_callB call_isiG (by rfl) T.n_isinstance (by decide +kernel) (pa_cons (pv 0) (pa_cons (pe_bltn (v := .ty "tuple") rfl T.n_tuple (by decide +kernel) rfl) pa_nil))) (by intro _; rfl))) (pw_or (pt_cmpR op_lt (pe_callB call_lenG (by rfl) T.n_len (by decide +kernel) (pa_cons (pv 0) pa_nil)) pe_int (nomark _)) (pw_or1 (pt_not (pt_tru (pe_callB call_isiG (by rfl) T.n_isinstance (by decide +kernel) (pa_cons (pe_ixG (hu_of hr) (pv 0) pe_int (fun _ _ => rfl)) (pa_cons (pe_bltn (v := .ty "str") rfl T.n_str (by decide +kernel) rfl) pa_nil))) (by intro _; rfl))))))) (pss_one (ps_ret pe_non)) pss_nil)
  (pss_cons (ps_if (PW.pt (pw_and (pt_cmpR (op_eqG (hu2_of hr)) (pe_ixG (hu_of hr) (pv 0) pe_int (fun _ _ => rfl)) pe_str (nomark _)) (pw_and (pt_cmpR (op_eqG (hu2_of hr)) (pe_callB call_lenG (by rfl) T.n_len (by decide +kernel) (pa_cons (pv 0) pa_nil)) pe_int (nomark _)) (pw_and (pt_tru (pe_cal c_is_whole hr rfl (pa_cons (pe_ixG (hu_of hr) (pv 0) pe_int (fun _ _ => rfl)) pa_nil)) (by intro _; rfl)) (pw_and1 (pt_tru (pe_cal c_is_small hr rfl (pa_cons (pe_ixG (hu_of hr) (pv 0) pe_int (fun _ _ => rfl)) pa_nil)) (by intro _; rfl))))))) (pss_one (ps_ret (pe_lstN pa_nil))) pss_nil)
  (pss_cons (ps_if (PW.pt (pw_and (pt_cmpR (op_inG (hu_of hr)) (pe_ixG (hu_of hr) (pv 0) pe_int (fun _ _ => rfl)) (pe_tupN (pa_cons pe_str (pa_cons pe_str pa_nil))) (by rfl)) (pw_and (pt_cmpR (op_eqG (hu2_of hr)) (pe_callB call_lenG (by rfl) T.n_len (by decide +kernel) (pa_cons (pv 0) pa_nil)) pe_int (nomark _)) (pw_and1 (pt_tru (pe_cal c_is_name hr rfl (pa_cons (pe_ixG (hu_of hr) (pv 0) pe_int (fun _ _ => rfl)) pa_nil)) (by intro _; rfl)))))) (pss_one (ps_ret (pe_lstN pa_nil))) pss_nil)
  (pss_cons (ps_if (PW.pt (pw_and (pt_cmpR (op_inG (hu_of hr)) (pe_ixG (hu_of hr) (pv 0) pe_int (fun _ _ => rfl)) (pe_glob (v := .ref (He.ga K "PARTS")) rfl T.g_PARTS rfl) (by rfl)) (pw_and1 (pt_cmpR (op_eqG (hu2_of hr)) (pe_callB call_lenG (by rfl) T.n_len (by decide +kernel) (pa_cons (pv 0) pa_nil)) (pe_op op_addG (pe_ixG (hu_of hr) (pe_glob (v := .ref (He.ga K "PARTS")) rfl T.g_PARTS rfl) (pe_ixG (hu_of hr) (pv 0) pe_int (fun _ _ => rfl)) (fun _ _ => rfl)) pe_int) (nomark _))))) (pss_one (ps_ret (pe_callTy (call_listG rfl) (by rfl) T.n_list (by decide +kernel) (pa_cons (pe_slice sl_any (pv 0) (po_some pe_int) po_none) pa_nil)))) pss_nil)
  (pss_cons (ps_if (PW.pt (pw_and (pt_cmpR (op_eqG (hu2_of hr)) (pe_ixG (hu_of hr) (pv 0) pe_int (fun _ _ => rfl)) pe_str (nomark _)) (pw_and (pt_cmpR (op_eqG (hu2_of hr)) (pe_callB call_lenG (by rfl) T.n_len (by decide +kernel) (pa_cons (pv 0) pa_nil)) pe_int (nomark _)) (pw_and1 (pt_tru (pe_cal c_are_rows hr rfl (pa_cons (pe_ixG (hu_of hr) (pv 0) pe_int (fun _ _ => rfl)) pa_nil)) (by intro _; rfl)))))) (pss_one (ps_ret (pe_op op_addG (pe_lc (own := [("row", 1)]) (g := (gName 1)) (tt := tYes) rfl sc_parts_of.nd (pi_seq (pe_ixG (hu_of hr) (pv 0) pe_int (fun _ _ => rfl))) (blkOk_by (by kernel_rfl)) (fun _ _ _ _ _ => (pg_name (i := 1) sc_parts_of.nd rfl (by first | exact Or.inl rfl | exact Or.inr rfl))) (fun _ _ _ _ _ => pts_nil) (fun _ _ _ _ _ => (pe_ixG (hu_of hr) (pv 1) pe_int (fun _ _ => rfl)))) (pe_lstN (pa_cons (pe_ixG (hu_of hr) (pv 0) pe_int (fun _ _ => rfl)) pa_nil))))) pss_nil)
  (pss_one (ps_ret pe_non)))))))
abbrev st_is_body : Stmt := topS 27
theorem sc_is_body : FnScope ["thing", "many", "pile", "one", "deep", "inner", "part"] ["thing"] (defScope st_is_body) := ⟨rfl, rfl, rfl, by decide +kernel, rfl, by decide +kernel, by decide +kernel⟩
theorem mk_is_body {P : Program} {w : World} {K : PySem.W.Frag} {mg : Str → Option Value} {base : Heap} (T : TX w K mg) {j : Nat} {sp : Sp} {s_parts_of : Sp} (c_parts_of : Cal P w K mg base j "parts_of" s_parts_of)
    (pure_ : PureOk 1 sp (t_is_body K w s_parts_of) 7) : Cal P w K mg base (j + 1) "is_body" sp := by
  obtain ⟨fd, F⟩ := T.d_is_body
  refine cal_mk F T.f_is_body sc_is_body (F.bindsN fun _ _ _ _ _ _ us hl => match us, hl with | [_], _ => rfl) pure_.len fun cdv A outer s H vs Q E hr h => ?_
  refine ⟨t_is_body K w s_parts_of, PSs.nox ?_, pure_.run vs H Q E h⟩
  exact (pss_cons (ps_set (i := 1) sc_is_body.nd rfl (Or.inl rfl) pe_int)
  (pss_cons (ps_set (i := 2) sc_is_body.nd rfl (Or.inl rfl) (pe_lstN (pa_cons (pe_tupN (pa_cons (pv 0) (pa_cons pe_int pa_nil))) pa_nil)))
  (pss_cons (ps_while PassesOwn.never (pt_cmpR (op_neG (hu2_of hr)) (pv 2) (pe_lstN pa_nil) (nomark _)) (pss_cons (ps_asg (pe_bm0 PySem.F.plainAttrs_list PySem.F.slot_list_pop PySem.F.type_list_pop mt_popG (pv 2)) (pg_tup rfl (pgs_cons (pg_name (i := 3) sc_is_body.nd rfl (by first | exact Or.inl rfl | exact Or.inr rfl)) (pgs_cons (pg_name (i := 4) sc_is_body.nd rfl (by first | exact Or.inl rfl | exact Or.inr rfl)) pgs_nil))))
  (pss_cons (ps_set (i := 5) sc_is_body.nd rfl (Or.inl rfl) (pe_cal c_parts_of hr rfl (pa_cons (pv 3) pa_nil)))
  (pss_cons (ps_set (i := 1) sc_is_body.nd rfl (Or.inl rfl) (pe_op op_addG (pv 1) pe_int))
  (pss_cons (ps_if (PW.pt (pw_or (pt_cmpR op_isG (pv 5) pe_non (nomark _)) (pw_or (pt_cmpR op_gt (pv 4) (pe_gc rfl T.v_DEEPEST) (nomark _)) (pw_or1 (pt_cmpR op_gt (pv 1) (pe_gc rfl T.v_MOST_PARTS) (nomark _)))))) (pss_one (ps_ret pe_bl)) pss_nil)
  (pss_one (ps_expr (pe_bm PySem.F.plainAttrs_list PySem.F.slot_list_extend PySem.F.type_list_extend mt_extendG (pv 2) (pa_cons (pe_lc (own := [("part", 6)]) (g := (gName 6)) (tt := tYes) rfl sc_is_body.nd (pi_seq (pv 5)) (blkOk_by (by kernel_rfl)) (fun _ _ _ _ _ => (pg_name (i := 6) sc_is_body.nd rfl (by first | exact Or.inl rfl | exact Or.inr rfl))) (fun _ _ _ _ _ => pts_nil) (fun _ _ _ _ _ => (pe_tupN (pa_cons (pv 6) (pa_cons (pe_op op_addG (pv 4) pe_int) pa_nil))))) pa_nil)))))))))
  (pss_one (ps_ret pe_bl)))))
abbrev st_is_function : Stmt := topS 28
theorem sc_is_function : FnScope ["thing", "name"] ["thing"] (defScope st_is_function) := ⟨rfl, rfl, rfl, by decide +kernel, rfl, by decide +kernel, by decide +kernel⟩
theorem mk_is_function {P : Program} {w : World} {K : PySem.W.Frag} {mg : Str → Option Value} {base : Heap} (T : TX w K mg) {j : Nat} {sp : Sp} {s_is_name s_is_body : Sp} (c_is_name : Cal P w K mg base j "is_name" s_is_name) (c_is_body : Cal P w K mg base j "is_body" s_is_body)
    (pure_ : PureOk 1 sp (t_is_function K w s_is_name s_is_body) 2) : Cal P w K mg base (j + 1) "is_function" sp := by
  obtain ⟨fd, F⟩ := T.d_is_function
  refine cal_mk F T.f_is_function sc_is_function (F.bindsN fun _ _ _ _ _ _ us hl => match us, hl with | [_], _ => rfl) pure_.len fun cdv A outer s H vs Q E hr h => ?_
  refine ⟨t_is_function K w s_is_name s_is_body, PSs.nox ?_, pure_.run vs H Q E h⟩
  exact (pss_cons (ps_if (PW.pt (pw_or (pt_not (pt_tru (pe_callB call_isiG (by rfl) T.n_isinstance (by decide +kernel) (pa_cons (pv 0) (pa_cons (pe_bltn (v := .ty "tuple") rfl T.n_tuple (by decide +kernel) rfl) pa_nil))) (by intro _; rfl))) (pw_or (pt_cmpR (op_neG (hu2_of hr)) (pe_callB call_lenG (by rfl) T.n_len (by decide +kernel) (pa_cons (pv 0) pa_nil)) pe_int (nomark _)) (pw_or (pt_not (pt_tru (pe_cal c_is_name hr rfl (pa_cons (pe_ixG (hu_of hr) (pv 0) pe_int (fun _ _ => rfl)) pa_nil)) (by intro _; rfl))) (pw_or1 (pt_not (pt_tru (pe_callB call_isiG (by rfl) T.n_isinstance (by decide +kernel) (pa_cons (pe_ixG (hu_of hr) (pv 0) pe_int (fun _ _ => rfl)) (pa_cons (pe_bltn (v := .ty "tuple") rfl T.n_tuple (by decide +kernel) rfl) pa_nil))) (by intro _; rfl)))))))) (pss_one (ps_ret pe_bl)) pss_nil)
  (pss_one (ps_ret (pe_andT (pe_cmpR op_le (pe_callB call_lenG (by rfl) T.n_len (by decide +kernel) (pa_cons (pe_ixG (hu_of hr) (pv 0) pe_int (fun _ _ => rfl)) pa_nil)) (pe_gc rfl T.v_MOST_NAMES) (nomark _)) (pe_andT (pe_callB (cr_all rfl) (by rfl) T.n_all (by decide +kernel) (pa_cons (pe_lc (own := [("name", 1)]) (g := (gName 1)) (tt := tYes) rfl sc_is_function.nd (pi_seq (pe_ixG (hu_of hr) (pv 0) pe_int (fun _ _ => rfl))) (blkOk_by (by kernel_rfl)) (fun _ _ _ _ _ => (pg_name (i := 1) sc_is_function.nd rfl (by first | exact Or.inl rfl | exact Or.inr rfl))) (fun _ _ _ _ _ => pts_nil) (fun _ _ _ _ _ => (pe_cal c_is_name hr rfl (pa_cons (pv 1) pa_nil)))) pa_nil)) (pe_one (pe_cal c_is_body hr rfl (pa_cons (pe_ixG (hu_of hr) (pv 0) pe_int (fun _ _ => rfl)) pa_nil))))))))
abbrev st_is_built : Stmt := topS 29
theorem sc_is_built : FnScope ["thing", "one"] ["thing"] (defScope st_is_built) := ⟨rfl, rfl, rfl, by decide +kernel, rfl, by decide +kernel, by decide +kernel⟩
theorem mk_is_built {P : Program} {w : World} {K : PySem.W.Frag} {mg : Str → Option Value} {base : Heap} (T : TX w K mg) {j : Nat} {sp : Sp} {s_is_function s_is_body : Sp} (c_is_function : Cal P w K mg base j "is_function" s_is_function) (c_is_body : Cal P w K mg base j "is_body" s_is_body)
    (pure_ : PureOk 1 sp (t_is_built K w s_is_function s_is_body) 2) : Cal P w K mg base (j + 1) "is_built" sp := by
  obtain ⟨fd, F⟩ := T.d_is_built
  refine cal_mk F T.f_is_built sc_is_built (F.bindsN fun _ _ _ _ _ _ us hl => match us, hl with | [_], _ => rfl) pure_.len fun cdv A outer s H vs Q E hr h => ?_
  refine ⟨t_is_built K w s_is_function s_is_body, PSs.nox ?_, pure_.run vs H Q E h⟩
  exact (pss_cons (ps_if (PW.pt (pw_or (pt_not (pt_tru (pe_callB call_isiG (by rfl) T.n_isinstance (by decide +kernel) (pa_cons (pv 0) (pa_cons (pe_bltn (v := .ty "tuple") rfl T.n_tuple (by decide +kernel) rfl) pa_nil))) (by intro _; rfl))) (pw_or (pt_cmpR (op_neG (hu2_of hr)) (pe_callB call_lenG (by rfl) T.n_len (by decide +kernel) (pa_cons (pv 0) pa_nil)) pe_int (nomark _)) (pw_or1 (pt_not (pt_tru (pe_callB call_isiG (by rfl) T.n_isinstance (by decide +kernel) (pa_cons (pe_ixG (hu_of hr) (pv 0) pe_int (fun _ _ => rfl)) (pa_cons (pe_bltn (v := .ty "tuple") rfl T.n_tuple (by decide +kernel) rfl) pa_nil))) (by intro _; rfl))))))) (pss_one (ps_ret pe_bl)) pss_nil)
  (pss_one (ps_ret (pe_andT (pe_cmpR op_le (pe_callB call_lenG (by rfl) T.n_len (by decide +kernel) (pa_cons (pe_ixG (hu_of hr) (pv 0) pe_int (fun _ _ => rfl)) pa_nil)) (pe_gc rfl T.v_MOST_FUNCTIONS) (nomark _)) (pe_andT (pe_callB (cr_all rfl) (by rfl) T.n_all (by decide +kernel) (pa_cons (pe_lc (own := [("one", 1)]) (g := (gName 1)) (tt := tYes) rfl sc_is_built.nd (pi_seq (pe_ixG (hu_of hr) (pv 0) pe_int (fun _ _ => rfl))) (blkOk_by (by kernel_rfl)) (fun _ _ _ _ _ => (pg_name (i := 1) sc_is_built.nd rfl (by first | exact Or.inl rfl | exact Or.inr rfl))) (fun _ _ _ _ _ => pts_nil) (fun _ _ _ _ _ => (pe_cal c_is_function hr rfl (pa_cons (pv 1) pa_nil)))) pa_nil)) (pe_one (pe_cal c_is_body hr rfl (pa_cons (pe_ixG (hu_of hr) (pv 0) pe_int (fun _ _ => rfl)) pa_nil))))))))
abbrev st_row_names : Stmt := topS 30
theorem sc_row_names : FnScope ["body", "found", "part", "name", "one"] ["body"] (defScope st_row_names) := ⟨rfl, rfl, rfl, by decide +kernel, rfl, by decide +kernel, by decide +kernel⟩
theorem mk_row_names {P : Program} {w : World} {K : PySem.W.Frag} {mg : Str → Option Value} {base : Heap} (T : TX w K mg) {j : Nat} {sp : Sp} {s_in_order : Sp} (c_in_order : Cal P w K mg base j "in_order" s_in_order)
    (pure_ : PureOk 1 sp (t_row_names K w s_in_order) 5) : Cal P w K mg base (j + 1) "row_names" sp := by
  obtain ⟨fd, F⟩ := T.d_row_names
  refine cal_mk F T.f_row_names sc_row_names (F.bindsN fun _ _ _ _ _ _ us hl => match us, hl with | [_], _ => rfl) pure_.len fun cdv A outer s H vs Q E hr h => ?_
  refine ⟨t_row_names K w s_in_order, PSs.nox ?_, pure_.run vs H Q E h⟩
  exact (pss_cons (ps_set (i := 1) sc_row_names.nd rfl (Or.inl rfl) (pe_lstN pa_nil))
  (pss_cons (ps_for PassesOwn.never rfl (pi_seq (pe_cal c_in_order hr rfl (pa_cons (pv 0) pa_nil))) (pg_name (i := 2) sc_row_names.nd rfl (by first | exact Or.inl rfl | exact Or.inr rfl)) (pss_one (ps_if (pt_cmpR (op_eqG (hu2_of hr)) (pe_ixG (hu_of hr) (pv 2) pe_int (fun _ _ => rfl)) pe_str (nomark _)) (pss_one (ps_expr (pe_bm PySem.F.plainAttrs_list PySem.F.slot_list_extend PySem.F.type_list_extend mt_extendG (pv 1) (pa_cons (pe_lc (own := [("name", 3), ("one", 4)]) (g := (gTup K 2 (gCons (gName 3) (gCons (gName 4) gNil)))) (tt := tYes) rfl sc_row_names.nd (pi_seq (pe_ixG (hu_of hr) (pv 2) pe_int (fun _ _ => rfl))) (blkOk_by (by kernel_rfl)) (fun _ _ _ _ _ => (pg_tup rfl (pgs_cons (pg_name (i := 3) sc_row_names.nd rfl (by first | exact Or.inl rfl | exact Or.inr rfl)) (pgs_cons (pg_name (i := 4) sc_row_names.nd rfl (by first | exact Or.inl rfl | exact Or.inr rfl)) pgs_nil)))) (fun _ _ _ _ _ => pts_nil) (fun _ _ _ _ _ => (pv 3))) pa_nil)))) pss_nil)))
  (pss_one (ps_ret (pv 1)))))
abbrev st_look_unlike : Stmt := topS 31
theorem sc_look_unlike : FnScope ["names", "at"] ["names"] (defScope st_look_unlike) := ⟨rfl, rfl, rfl, by decide +kernel, rfl, by decide +kernel, by decide +kernel⟩
theorem mk_look_unlike {P : Program} {w : World} {K : PySem.W.Frag} {mg : Str → Option Value} {base : Heap} (T : TX w K mg) {j : Nat} {sp : Sp} {s_Hidden___init__ : Sp} (c_Hidden___init__ : Xal P w K mg base j "Hidden" (He.ga K "Hidden") s_Hidden___init__)
    (pure_ : PureOkX 1 sp (tx_look_unlike K w s_Hidden___init__) 2) : CalX P w K mg base (j + 1) "look_unlike" sp := by
  obtain ⟨fd, F⟩ := T.d_look_unlike
  refine calx_mk F T.f_look_unlike sc_look_unlike (F.bindsN fun _ _ _ _ _ _ us hl => match us, hl with | [_], _ => rfl) pure_.len fun cdv A outer s H vs Q E hr h => ?_
  refine ⟨tx_look_unlike K w s_Hidden___init__ E, ?_, pure_.run vs H Q E h⟩
  exact (pss_one (ps_for (passes_of rfl) rfl (pi_range1 (by rfl) T.n_range (pa_cons (pe_callB call_lenG (by rfl) T.n_len (by decide +kernel) (pa_cons (pv 0) pa_nil)) pa_nil)) (pg_name (i := 1) sc_look_unlike.nd rfl (by first | exact Or.inl rfl | exact Or.inr rfl)) (pss_one (ps_if (pt_cmpR (op_inG (hu_of hr)) (pe_ixG (hu_of hr) (pv 0) (pv 1) (fun _ _ => rfl)) (pe_slice sl_any (pv 0) po_none (po_some (pv 1))) (by rfl)) (pss_one (ps_raiseI rfl (takes_of rfl rfl rfl rfl) c_Hidden___init__ hr rfl (pa_cons (pe_ixG (hu_of hr) (pv 0) (pv 1) (fun _ _ => rfl)) pa_nil))) pss_nil))))
abbrev st_look_named : Stmt := topS 32
theorem sc_look_named : FnScope ["part", "known", "functions", "inner", "name", "one"] ["part", "known", "functions"] (defScope st_look_named) := ⟨rfl, rfl, rfl, by decide +kernel, rfl, by decide +kernel, by decide +kernel⟩
theorem mk_look_named {P : Program} {w : World} {K : PySem.W.Frag} {mg : Str → Option Value} {base : Heap} (T : TX w K mg) {j : Nat} {sp : Sp} {s_Stranger___init__ s_look_named : Sp} (c_Stranger___init__ : Xal P w K mg base j "Stranger" (He.ga K "Stranger") s_Stranger___init__) (c_look_named : CalX P w K mg base j "look_named" s_look_named)
    (pure_ : PureOkX 3 sp (tx_look_named K w s_Stranger___init__ s_look_named) 6) : CalX P w K mg base (j + 1) "look_named" sp := by
  obtain ⟨fd, F⟩ := T.d_look_named
  refine calx_mk F T.f_look_named sc_look_named (F.bindsN fun _ _ _ _ _ _ us hl => match us, hl with | [_, _, _], _ => rfl) pure_.len fun cdv A outer s H vs Q E hr h => ?_
  refine ⟨tx_look_named K w s_Stranger___init__ s_look_named E, ?_, pure_.run vs H Q E h⟩
  exact (pss_cons (ps_if (PW.pt (pw_or (PW.pt (pw_and (pt_cmpR (op_eqG (hu2_of hr)) (pe_ixG (hu_of hr) (pv 0) pe_int (fun _ _ => rfl)) pe_str (nomark _)) (pw_and1 (pt_cmpR (op_notInG (hu_of hr)) (pe_ixG (hu_of hr) (pv 0) pe_int (fun _ _ => rfl)) (pv 1) (by rfl))))) (pw_or1 (PW.pt (pw_and (pt_cmpR (op_eqG (hu2_of hr)) (pe_ixG (hu_of hr) (pv 0) pe_int (fun _ _ => rfl)) pe_str (nomark _)) (pw_and1 (pt_cmpR (op_notInG (hu_of hr)) (pe_ixG (hu_of hr) (pv 0) pe_int (fun _ _ => rfl)) (pv 2) (by rfl)))))))) (pss_one (ps_raiseI rfl (takes_of rfl rfl rfl rfl) c_Stranger___init__ hr rfl (pa_cons (pe_ixG (hu_of hr) (pv 0) pe_int (fun _ _ => rfl)) pa_nil))) pss_nil)
  (pss_one (ps_if (pt_cmpR (op_eqG (hu2_of hr)) (pe_ixG (hu_of hr) (pv 0) pe_int (fun _ _ => rfl)) pe_str (nomark _)) (pss_cons (ps_set (i := 3) sc_look_named.nd rfl (Or.inl rfl) (pe_op op_addG (pv 1) (pe_lc (own := [("name", 4), ("one", 5)]) (g := (gTup K 2 (gCons (gName 4) (gCons (gName 5) gNil)))) (tt := tYes) rfl sc_look_named.nd (pi_seq (pe_ixG (hu_of hr) (pv 0) pe_int (fun _ _ => rfl))) (blkOk_by (by kernel_rfl)) (fun _ _ _ _ _ => (pg_tup rfl (pgs_cons (pg_name (i := 4) sc_look_named.nd rfl (by first | exact Or.inl rfl | exact Or.inr rfl)) (pgs_cons (pg_name (i := 5) sc_look_named.nd rfl (by first | exact Or.inl rfl | exact Or.inr rfl)) pgs_nil)))) (fun _ _ _ _ _ => pts_nil) (fun _ _ _ _ _ => (pv 4)))))
  (pss_cons (ps_for (passes_of rfl) rfl (pi_seq (pe_ixG (hu_of hr) (pv 0) pe_int (fun _ _ => rfl))) (pg_tup rfl (pgs_cons (pg_name (i := 4) sc_look_named.nd rfl (by first | exact Or.inl rfl | exact Or.inr rfl)) (pgs_cons (pg_name (i := 5) sc_look_named.nd rfl (by first | exact Or.inl rfl | exact Or.inr rfl)) pgs_nil))) (pss_one (ps_expr (pe_calE c_look_named hr rfl (takes_of rfl rfl rfl rfl) (pa_cons (pv 5) (pa_cons (pv 3) (pa_cons (pv 2) pa_nil)))))))
  (pss_one (ps_expr (pe_calE c_look_named hr rfl (takes_of rfl rfl rfl rfl) (pa_cons (pe_ixG (hu_of hr) (pv 0) pe_int (fun _ _ => rfl)) (pa_cons (pv 3) (pa_cons (pv 2) pa_nil)))))))) (pss_one (ps_if (pt_cmpR (op_inG (hu_of hr)) (pe_ixG (hu_of hr) (pv 0) pe_int (fun _ _ => rfl)) (pe_glob (v := .ref (He.ga K "PARTS")) rfl T.g_PARTS rfl) (by rfl)) (pss_one (ps_for (passes_of rfl) rfl (pi_seq (pe_slice sl_any (pv 0) (po_some pe_int) po_none)) (pg_name (i := 5) sc_look_named.nd rfl (by first | exact Or.inl rfl | exact Or.inr rfl)) (pss_one (ps_expr (pe_calE c_look_named hr rfl (takes_of rfl rfl rfl rfl) (pa_cons (pv 5) (pa_cons (pv 1) (pa_cons (pv 2) pa_nil)))))))) pss_nil)))))
abbrev st_looked : Stmt := topS 33
theorem sc_looked : FnScope ["thing", "functions", "name", "names", "body", "at"] ["thing"] (defScope st_looked) := ⟨rfl, rfl, rfl, by decide +kernel, rfl, by decide +kernel, by decide +kernel⟩
theorem mk_looked {P : Program} {w : World} {K : PySem.W.Frag} {mg : Str → Option Value} {base : Heap} (T : TX w K mg) {j : Nat} {sp : Sp} {s_is_built s_Twice___init__ s_look_unlike s_row_names s_look_named : Sp} (c_is_built : Cal P w K mg base j "is_built" s_is_built) (c_Twice___init__ : Xal P w K mg base j "Twice" (He.ga K "Twice") s_Twice___init__) (c_look_unlike : CalX P w K mg base j "look_unlike" s_look_unlike) (c_row_names : Cal P w K mg base j "row_names" s_row_names) (c_look_named : CalX P w K mg base j "look_named" s_look_named)
    (pure_ : PureOkX 1 sp (tx_looked K w s_is_built s_Twice___init__ s_look_unlike s_row_names s_look_named) 6) : CalX P w K mg base (j + 1) "looked" sp := by
  obtain ⟨fd, F⟩ := T.d_looked
  refine calx_mk F T.f_looked sc_looked (F.bindsN fun _ _ _ _ _ _ us hl => match us, hl with | [_], _ => rfl) pure_.len fun cdv A outer s H vs Q E hr h => ?_
  refine ⟨tx_looked K w s_is_built s_Twice___init__ s_look_unlike s_row_names s_look_named E, ?_, pure_.run vs H Q E h⟩
  exact (pss_cons (ps_if (pt_not (pt_tru (pe_cal c_is_built hr rfl (pa_cons (pv 0) pa_nil)) (by intro _; rfl))) (pss_one (ps_raiseO rfl (takes_of rfl rfl rfl rfl) T.errs.q_NoProgram T.g_NoProgram T.errs.x_NoProgram rfl)) pss_nil)
  (pss_cons (ps_setLc (i := 1) (own := [("name", 2), ("names", 3), ("body", 4)]) (g := (gTup K 3 (gCons (gName 2) (gCons (gName 3) (gCons (gName 4) gNil))))) (tt := tYes) rfl sc_looked.nd rfl rfl (sw_true rfl rfl rfl (by decide +kernel)) (pi_seq (pe_ixG (hu_of hr) (pv 0) pe_int (fun _ _ => rfl))) (blkOk_by (by kernel_rfl)) (fun _ _ _ _ _ => (pg_tup rfl (pgs_cons (pg_name (i := 2) sc_looked.nd rfl (by first | exact Or.inl rfl | exact Or.inr rfl)) (pgs_cons (pg_name (i := 3) sc_looked.nd rfl (by first | exact Or.inl rfl | exact Or.inr rfl)) (pgs_cons (pg_name (i := 4) sc_looked.nd rfl (by first | exact Or.inl rfl | exact Or.inr rfl)) pgs_nil))))) (fun _ _ _ _ _ => pts_nil) (fun _ _ _ _ _ => (pv 2)))
  (pss_cons (ps_for (passes_of rfl) rfl (pi_range1 (by rfl) T.n_range (pa_cons (pe_callB call_lenG (by rfl) T.n_len (by decide +kernel) (pa_cons (pv 1) pa_nil)) pa_nil)) (pg_name (i := 5) sc_looked.nd rfl (by first | exact Or.inl rfl | exact Or.inr rfl)) (pss_one (ps_if (pt_cmpR (op_inG (hu_of hr)) (pe_ixG (hu_of hr) (pv 1) (pv 5) (fun _ _ => rfl)) (pe_slice sl_any (pv 1) po_none (po_some (pv 5))) (by rfl)) (pss_one (ps_raiseI rfl (takes_of rfl rfl rfl rfl) c_Twice___init__ hr rfl (pa_cons (pe_ixG (hu_of hr) (pv 1) (pv 5) (fun _ _ => rfl)) pa_nil))) pss_nil)))
  (pss_cons (ps_for (passes_of rfl) rfl (pi_seq (pe_op op_addG (pe_lc (own := [("name", 2), ("names", 3), ("body", 4)]) (g := (gTup K 3 (gCons (gName 2) (gCons (gName 3) (gCons (gName 4) gNil))))) (tt := tYes) rfl sc_looked.nd (pi_seq (pe_ixG (hu_of hr) (pv 0) pe_int (fun _ _ => rfl))) (blkOk_by (by kernel_rfl)) (fun _ _ _ _ _ => (pg_tup rfl (pgs_cons (pg_name (i := 2) sc_looked.nd rfl (by first | exact Or.inl rfl | exact Or.inr rfl)) (pgs_cons (pg_name (i := 3) sc_looked.nd rfl (by first | exact Or.inl rfl | exact Or.inr rfl)) (pgs_cons (pg_name (i := 4) sc_looked.nd rfl (by first | exact Or.inl rfl | exact Or.inr rfl)) pgs_nil))))) (fun _ _ _ _ _ => pts_nil) (fun _ _ _ _ _ => (pe_tupN (pa_cons (pv 3) (pa_cons (pv 4) pa_nil))))) (pe_lstN (pa_cons (pe_tupN (pa_cons (pe_tupN pa_nil) (pa_cons (pe_ixG (hu_of hr) (pv 0) pe_int (fun _ _ => rfl)) pa_nil))) pa_nil)))) (pg_tup rfl (pgs_cons (pg_name (i := 3) sc_looked.nd rfl (by first | exact Or.inl rfl | exact Or.inr rfl)) (pgs_cons (pg_name (i := 4) sc_looked.nd rfl (by first | exact Or.inl rfl | exact Or.inr rfl)) pgs_nil))) (pss_cons (ps_expr (pe_calE c_look_unlike hr rfl (takes_of rfl rfl rfl rfl) (pa_cons (pe_op op_addG (pe_callTy (call_listG rfl) (by rfl) T.n_list (by decide +kernel) (pa_cons (pv 3) pa_nil)) (pe_cal c_row_names hr rfl (pa_cons (pv 4) pa_nil))) pa_nil)))
  (pss_one (ps_expr (pe_calE c_look_named hr rfl (takes_of rfl rfl rfl rfl) (pa_cons (pv 4) (pa_cons (pe_callTy (call_listG rfl) (by rfl) T.n_list (by decide +kernel) (pa_cons (pv 3) pa_nil)) (pa_cons (pv 1) pa_nil))))))))
  (pss_one (ps_ret (pv 0)))))))
abbrev st_is_figures : Stmt := topS 36
theorem sc_is_figures : FnScope ["word", "figures", "sign"] ["word"] (defScope st_is_figures) := ⟨rfl, rfl, rfl, by decide +kernel, rfl, by decide +kernel, by decide +kernel⟩
theorem mk_is_figures {P : Program} {w : World} {K : PySem.W.Frag} {mg : Str → Option Value} {base : Heap} (T : TX w K mg) {j : Nat} {sp : Sp}
    (pure_ : PureOk 1 sp (t_is_figures K w ) 3) : Cal P w K mg base (j + 1) "is_figures" sp := by
  obtain ⟨fd, F⟩ := T.d_is_figures
  refine cal_mk F T.f_is_figures sc_is_figures (F.bindsN fun _ _ _ _ _ _ us hl => match us, hl with | [_], _ => rfl) pure_.len fun cdv A outer s H vs Q E hr h => ?_
  refine ⟨t_is_figures K w , PSs.nox ?_, pure_.run vs H Q E h⟩
  exact (pss_cons (ps_set (i := 1) sc_is_figures.nd rfl (Or.inl rfl) (pe_ifExp (pt_cmpR (op_eqG (hu2_of hr)) (pe_slice sl_any (pv 0) po_none (po_some pe_int)) pe_str (nomark _)) (pe_slice sl_any (pv 0) (po_some pe_int) po_none) (pv 0)))
  (pss_cons (ps_if (PW.pt (pw_or (pt_not (pt_chain op_le op_le pe_int (pe_callB call_lenG (by rfl) T.n_len (by decide +kernel) (pa_cons (pv 1) pa_nil)) pe_int)) (pw_or1 (pt_not (pt_tru (pe_callB (cr_all rfl) (by rfl) T.n_all (by decide +kernel) (pa_cons (pe_lc (own := [("sign", 2)]) (g := (gName 2)) (tt := tYes) rfl sc_is_figures.nd (pi_seq (pv 1)) (blkOk_by (by kernel_rfl)) (fun _ _ _ _ _ => (pg_name (i := 2) sc_is_figures.nd rfl (by first | exact Or.inl rfl | exact Or.inr rfl))) (fun _ _ _ _ _ => pts_nil) (fun _ _ _ _ _ => (pe_cmpR (op_inG (hu_of hr)) (pv 2) (pe_gc rfl T.v_FIGURES) (by rfl)))) pa_nil)) (by intro _; rfl)))))) (pss_one (ps_ret pe_bl)) pss_nil)
  (pss_one (ps_ret (pe_orT (pe_cmpR (op_eqG (hu2_of hr)) (pv 0) pe_str (nomark _)) (pe_one (pe_cmpR (op_neG (hu2_of hr)) (pe_ixG (hu_of hr) (pv 1) pe_int (fun _ _ => rfl)) pe_str (nomark _))))))))
abbrev st_is_marked : Stmt := topS 37
theorem sc_is_marked : FnScope ["word", "mark"] ["word", "mark"] (defScope st_is_marked) := ⟨rfl, rfl, rfl, by decide +kernel, rfl, by decide +kernel, by decide +kernel⟩
theorem mk_is_marked {P : Program} {w : World} {K : PySem.W.Frag} {mg : Str → Option Value} {base : Heap} (T : TX w K mg) {j : Nat} {sp : Sp} {s_is_name : Sp} (c_is_name : Cal P w K mg base j "is_name" s_is_name)
    (pure_ : PureOk 2 sp (t_is_marked K w s_is_name) 2) : Cal P w K mg base (j + 1) "is_marked" sp := by
  obtain ⟨fd, F⟩ := T.d_is_marked
  refine cal_mk F T.f_is_marked sc_is_marked (F.bindsN fun _ _ _ _ _ _ us hl => match us, hl with | [_, _], _ => rfl) pure_.len fun cdv A outer s H vs Q E hr h => ?_
  refine ⟨t_is_marked K w s_is_name, PSs.nox ?_, pure_.run vs H Q E h⟩
  exact (pss_one (ps_ret (pe_andT (pe_cmpR (op_eqG (hu2_of hr)) (pe_slice sl_any (pv 0) po_none (po_some pe_int)) (pv 1) (nomark _)) (pe_one (pe_cal c_is_name hr rfl (pa_cons (pe_slice sl_any (pv 0) (po_some pe_int) po_none) pa_nil))))))
abbrev st_PartReader___init__ : Stmt := inClass (topS 38) 0
theorem sc_PartReader___init__ : FnScope ["self", "row", "words", "at"] ["self", "row", "words", "at"] (defScope st_PartReader___init__) := ⟨rfl, rfl, rfl, by decide +kernel, rfl, by decide +kernel, by decide +kernel⟩
theorem mk_PartReader___init__ {P : Program} {w : World} {K : PySem.W.Frag} {mg : Str → Option Value} {base : Heap} (T : TX w K mg) {j : Nat} {sp : Sp}
    (pure_ : PureOk 4 sp (t_PartReader___init__ K w ) 4) : KCal P w K mg base (j + 2) "PartReader" (He.ga K "PartReader") sp := by
  obtain ⟨fd, F⟩ := T.d_PartReader___init__
  refine kcal_mk F T.i_PartReader T.g_PartReader sc_PartReader___init__ (F.bindsN fun _ _ _ _ _ _ us hl => match us, hl with | [_, _, _, _], _ => rfl) pure_.len fun cdv A outer s H vs Q E hr h => ?_
  refine ⟨t_PartReader___init__ K w , PSs.nox ?_, pure_.run vs H Q E h⟩
  exact (pss_cons (ps_fld (pv 0) (pv 1) rfl)
  (pss_cons (ps_fld (pv 0) (pv 2) rfl)
  (pss_cons (ps_fld (pv 0) (pv 3) rfl)
  (pss_one (ps_fld (pv 0) (pe_gc rfl T.v_MOST_PARTS) rfl)))))
abbrev st_PartReader_refuse : Stmt := inClass (topS 38) 1
theorem sc_PartReader_refuse : FnScope ["self"] ["self"] (defScope st_PartReader_refuse) := ⟨rfl, rfl, rfl, by decide +kernel, rfl, by decide +kernel, by decide +kernel⟩
theorem mk_PartReader_refuse {P : Program} {w : World} {K : PySem.W.Frag} {mg : Str → Option Value} {base : Heap} (T : TX w K mg) {j : Nat} {sp : Sp} {s_NoText___init__ : Sp} (c_NoText___init__ : Xal P w K mg base j "NoText" (He.ga K "NoText") s_NoText___init__)
    (pure_ : PureOkX 1 sp (tx_PartReader_refuse K w s_NoText___init__) 1) : MCalX P w K mg base (j + 1) (He.ga K "PartReader") "refuse" sp := by
  obtain ⟨fd, F⟩ := T.d_PartReader_refuse
  refine mcalx_mk F T.m_PartReader_refuse T.c_PartReader sc_PartReader_refuse (F.bindsN fun _ _ _ _ _ _ us hl => match us, hl with | [_], _ => rfl) pure_.len fun cdv A outer s H vs Q E hr h => ?_
  refine ⟨tx_PartReader_refuse K w s_NoText___init__ E, ?_, pure_.run vs H Q E h⟩
  exact (pss_one (ps_raiseI rfl (takes_of rfl rfl rfl rfl) c_NoText___init__ hr rfl (pa_cons (pe_fld (pv 0) rfl) (pa_cons (pe_fld (pv 0) rfl) pa_nil))))
abbrev st_PartReader_now : Stmt := inClass (topS 38) 2
theorem sc_PartReader_now : FnScope ["self"] ["self"] (defScope st_PartReader_now) := ⟨rfl, rfl, rfl, by decide +kernel, rfl, by decide +kernel, by decide +kernel⟩
theorem mk_PartReader_now {P : Program} {w : World} {K : PySem.W.Frag} {mg : Str → Option Value} {base : Heap} (T : TX w K mg) {j : Nat} {sp : Sp} {s_PartReader_refuse : Sp} (c_PartReader_refuse : MCalX P w K mg base j (He.ga K "PartReader") "refuse" s_PartReader_refuse)
    (pure_ : PureOkX 1 sp (tx_PartReader_now K w s_PartReader_refuse) 1) : MCalX P w K mg base (j + 1) (He.ga K "PartReader") "now" sp := by
  obtain ⟨fd, F⟩ := T.d_PartReader_now
  refine mcalx_mk F T.m_PartReader_now T.c_PartReader sc_PartReader_now (F.bindsN fun _ _ _ _ _ _ us hl => match us, hl with | [_], _ => rfl) pure_.len fun cdv A outer s H vs Q E hr h => ?_
  refine ⟨tx_PartReader_now K w s_PartReader_refuse E, ?_, pure_.run vs H Q E h⟩
  exact (pss_cons (ps_if (pt_cmpR (op_eqG (hu2_of hr)) (pe_fld (pv 0) rfl) (pe_callB call_lenG (by rfl) T.n_len (by decide +kernel) (pa_cons (pe_fld (pv 0) rfl) pa_nil)) (nomark _)) (pss_one (ps_expr (pe_mcalE0 (pv 0) c_PartReader_refuse hr (takes_of rfl rfl rfl rfl)))) pss_nil)
  (pss_one (ps_ret (pe_ixG (hu_of hr) (pe_fld (pv 0) rfl) (pe_fld (pv 0) rfl) (fun _ _ => rfl)))))
abbrev st_PartReader_mark : Stmt := inClass (topS 38) 3
theorem sc_PartReader_mark : FnScope ["self", "word"] ["self"] (defScope st_PartReader_mark) := ⟨rfl, rfl, rfl, by decide +kernel, rfl, by decide +kernel, by decide +kernel⟩
theorem mk_PartReader_mark {P : Program} {w : World} {K : PySem.W.Frag} {mg : Str → Option Value} {base : Heap} (T : TX w K mg) {j : Nat} {sp : Sp} {s_PartReader_now s_is_marked s_PartReader_refuse : Sp} (c_PartReader_now : MCalX P w K mg base j (He.ga K "PartReader") "now" s_PartReader_now) (c_is_marked : Cal P w K mg base j "is_marked" s_is_marked) (c_PartReader_refuse : MCalX P w K mg base j (He.ga K "PartReader") "refuse" s_PartReader_refuse)
    (pure_ : PureOkX 1 sp (tx_PartReader_mark K w s_PartReader_now s_is_marked s_PartReader_refuse) 2) : MCalX P w K mg base (j + 1) (He.ga K "PartReader") "mark" sp := by
  obtain ⟨fd, F⟩ := T.d_PartReader_mark
  refine mcalx_mk F T.m_PartReader_mark T.c_PartReader sc_PartReader_mark (F.bindsN fun _ _ _ _ _ _ us hl => match us, hl with | [_], _ => rfl) pure_.len fun cdv A outer s H vs Q E hr h => ?_
  refine ⟨tx_PartReader_mark K w s_PartReader_now s_is_marked s_PartReader_refuse E, ?_, pure_.run vs H Q E h⟩
  exact (pss_cons (ps_set (i := 1) sc_PartReader_mark.nd rfl (Or.inl rfl) (pe_mcalE0 (pv 0) c_PartReader_now hr (takes_of rfl rfl rfl rfl)))
  (pss_cons (ps_if (pt_not (pt_tru (pe_cal c_is_marked hr rfl (pa_cons (pv 1) (pa_cons pe_str pa_nil))) (by intro _; rfl))) (pss_one (ps_expr (pe_mcalE0 (pv 0) c_PartReader_refuse hr (takes_of rfl rfl rfl rfl)))) pss_nil)
  (pss_cons (ps_fld (pv 0) (pe_op op_addG (pe_fld (pv 0) rfl) pe_int) rfl)
  (pss_one (ps_ret (pe_slice sl_any (pv 1) (po_some pe_int) po_none))))))
abbrev st_PartReader_begin : Stmt := inClass (topS 38) 4
theorem sc_PartReader_begin : FnScope ["self", "deep", "word", "known"] ["self", "deep"] (defScope st_PartReader_begin) := ⟨rfl, rfl, rfl, by decide +kernel, rfl, by decide +kernel, by decide +kernel⟩
theorem mk_PartReader_begin {P : Program} {w : World} {K : PySem.W.Frag} {mg : Str → Option Value} {base : Heap} (T : TX w K mg) {j : Nat} {sp : Sp} {s_PartReader_now s_is_figures s_is_marked s_PartReader_refuse : Sp} (c_PartReader_now : MCalX P w K mg base j (He.ga K "PartReader") "now" s_PartReader_now) (c_is_figures : Cal P w K mg base j "is_figures" s_is_figures) (c_is_marked : Cal P w K mg base j "is_marked" s_is_marked) (c_PartReader_refuse : MCalX P w K mg base j (He.ga K "PartReader") "refuse" s_PartReader_refuse)
    (pure_ : PureOkX 2 sp (tx_PartReader_begin K w s_PartReader_now s_is_figures s_is_marked s_PartReader_refuse) 4) : MCalX P w K mg base (j + 1) (He.ga K "PartReader") "begin" sp := by
  obtain ⟨fd, F⟩ := T.d_PartReader_begin
  refine mcalx_mk F T.m_PartReader_begin T.c_PartReader sc_PartReader_begin (F.bindsN fun _ _ _ _ _ _ us hl => match us, hl with | [_, _], _ => rfl) pure_.len fun cdv A outer s H vs Q E hr h => ?_
  refine ⟨tx_PartReader_begin K w s_PartReader_now s_is_figures s_is_marked s_PartReader_refuse E, ?_, pure_.run vs H Q E h⟩
  exact (pss_cons (ps_set (i := 2) sc_PartReader_begin.nd rfl (Or.inl rfl) (pe_mcalE0 (pv 0) c_PartReader_now hr (takes_of rfl rfl rfl rfl)))
  (pss_cons (ps_set (i := 3) sc_PartReader_begin.nd rfl (Or.inl rfl) (pe_orT (pe_cal c_is_figures hr rfl (pa_cons (pv 2) pa_nil)) (pe_orT (pe_cal c_is_marked hr rfl (pa_cons (pv 2) (pa_cons pe_str pa_nil))) (pe_one (pe_cal c_is_marked hr rfl (pa_cons (pv 2) (pa_cons pe_str pa_nil)))))))
  (pss_cons (ps_if (PW.pt (pw_or (pt_cmpR op_gt (pv 1) (pe_gc rfl T.v_DEEPEST) (nomark _)) (pw_or (pt_cmpR (op_eqG (hu2_of hr)) (pe_fld (pv 0) rfl) pe_int (nomark _)) (pw_or1 (PW.pt (pw_and (pt_not (pt_tru (pv 3) (by intro _; rfl))) (pw_and (pt_cmpR (op_notInG (hu_of hr)) (pv 2) (pe_glob (v := .ref (He.ga K "PARTS")) rfl T.g_PARTS rfl) (by rfl)) (pw_and1 (pt_cmpR (op_neG (hu2_of hr)) (pv 2) pe_str (nomark _)))))))))) (pss_one (ps_expr (pe_mcalE0 (pv 0) c_PartReader_refuse hr (takes_of rfl rfl rfl rfl)))) pss_nil)
  (pss_cons (ps_fld (pv 0) (pe_op op_sub (pe_fld (pv 0) rfl) pe_int) rfl)
  (pss_cons (ps_fld (pv 0) (pe_op op_addG (pe_fld (pv 0) rfl) pe_int) rfl)
  (pss_one (ps_ret (pv 2))))))))
abbrev st_PartReader_let_rows : Stmt := inClass (topS 38) 5
theorem sc_PartReader_let_rows : FnScope ["self", "deep", "word", "found", "k", "name"] ["self", "deep"] (defScope st_PartReader_let_rows) := ⟨rfl, rfl, rfl, by decide +kernel, rfl, by decide +kernel, by decide +kernel⟩
theorem mk_PartReader_let_rows {P : Program} {w : World} {K : PySem.W.Frag} {mg : Str → Option Value} {base : Heap} (T : TX w K mg) {j : Nat} {sp : Sp} {s_PartReader_now s_PartReader_refuse s_PartReader_mark s_PartReader_part : Sp} (c_PartReader_now : MCalX P w K mg base j (He.ga K "PartReader") "now" s_PartReader_now) (c_PartReader_refuse : MCalX P w K mg base j (He.ga K "PartReader") "refuse" s_PartReader_refuse) (c_PartReader_mark : MCalX P w K mg base j (He.ga K "PartReader") "mark" s_PartReader_mark) (c_PartReader_part : MCalX P w K mg base j (He.ga K "PartReader") "part" s_PartReader_part)
    (pure_ : PureOkX 2 sp (tx_PartReader_let_rows K w s_PartReader_now s_PartReader_refuse s_PartReader_mark s_PartReader_part) 6) : MCalX P w K mg base (j + 1) (He.ga K "PartReader") "let_rows" sp := by
  obtain ⟨fd, F⟩ := T.d_PartReader_let_rows
  refine mcalx_mk F T.m_PartReader_let_rows T.c_PartReader sc_PartReader_let_rows (F.bindsN fun _ _ _ _ _ _ us hl => match us, hl with | [_, _], _ => rfl) pure_.len fun cdv A outer s H vs Q E hr h => ?_
  refine ⟨tx_PartReader_let_rows K w s_PartReader_now s_PartReader_refuse s_PartReader_mark s_PartReader_part E, ?_, pure_.run vs H Q E h⟩
  exact (pss_cons (ps_set (i := 2) sc_PartReader_let_rows.nd rfl (Or.inl rfl) (pe_mcalE0 (pv 0) c_PartReader_now hr (takes_of rfl rfl rfl rfl)))
  (pss_cons (ps_if (pt_cmpR (op_notInG (hu_of hr)) (pv 2) (pe_slice sl_any (pe_tupN (pa_cons pe_str (pa_cons pe_str (pa_cons pe_str (pa_cons pe_str pa_nil))))) po_none (po_some (pe_gc rfl T.v_MOST_ROWS))) (by rfl)) (pss_one (ps_expr (pe_mcalE0 (pv 0) c_PartReader_refuse hr (takes_of rfl rfl rfl rfl)))) pss_nil)
  (pss_cons (ps_fld (pv 0) (pe_op op_addG (pe_fld (pv 0) rfl) pe_int) rfl)
  (pss_cons (ps_set (i := 3) sc_PartReader_let_rows.nd rfl (Or.inl rfl) (pe_lstN pa_nil))
  (pss_cons (ps_for (passes_of rfl) rfl (pi_range1 (by rfl) T.n_range (pa_cons (pe_callTy call_intA (by rfl) T.n_int (by decide +kernel) (pa_cons (pv 2) pa_nil)) pa_nil)) (pg_name (i := 4) sc_PartReader_let_rows.nd rfl (by first | exact Or.inl rfl | exact Or.inr rfl)) (pss_cons (ps_set (i := 5) sc_PartReader_let_rows.nd rfl (Or.inl rfl) (pe_mcalE0 (pv 0) c_PartReader_mark hr (takes_of rfl rfl rfl rfl)))
  (pss_one (ps_expr (pe_bm PySem.F.plainAttrs_list PySem.F.slot_list_append PySem.F.type_list_append mt_appendG (pv 3) (pa_cons (pe_tupN (pa_cons (pv 5) (pa_cons (pe_mcalE (pv 0) c_PartReader_part hr (takes_of rfl rfl rfl rfl) (pa_cons (pv 1) pa_nil)) pa_nil))) pa_nil))))))
  (pss_one (ps_ret (pe_callTy call_tupleG (by rfl) T.n_tuple (by decide +kernel) (pa_cons (pv 3) pa_nil)))))))))
abbrev st_PartReader_part : Stmt := inClass (topS 38) 6
theorem sc_PartReader_part : FnScope ["self", "deep", "word", "k", "found"] ["self", "deep"] (defScope st_PartReader_part) := ⟨rfl, rfl, rfl, by decide +kernel, rfl, by decide +kernel, by decide +kernel⟩
theorem mk_PartReader_part {P : Program} {w : World} {K : PySem.W.Frag} {mg : Str → Option Value} {base : Heap} (T : TX w K mg) {j : Nat} {sp : Sp} {s_PartReader_begin s_PartReader_part s_PartReader_let_rows : Sp} (c_PartReader_begin : MCalX P w K mg base j (He.ga K "PartReader") "begin" s_PartReader_begin) (c_PartReader_part : MCalX P w K mg base j (He.ga K "PartReader") "part" s_PartReader_part) (c_PartReader_let_rows : MCalX P w K mg base j (He.ga K "PartReader") "let_rows" s_PartReader_let_rows)
    (pure_ : PureOkX 2 sp (tx_PartReader_part K w s_PartReader_begin s_PartReader_part s_PartReader_let_rows) 5) : MCalX P w K mg base (j + 1) (He.ga K "PartReader") "part" sp := by
  obtain ⟨fd, F⟩ := T.d_PartReader_part
  refine mcalx_mk F T.m_PartReader_part T.c_PartReader sc_PartReader_part (F.bindsN fun _ _ _ _ _ _ us hl => match us, hl with | [_, _], _ => rfl) pure_.len fun cdv A outer s H vs Q E hr h => ?_
  refine ⟨tx_PartReader_part K w s_PartReader_begin s_PartReader_part s_PartReader_let_rows E, ?_, pure_.run vs H Q E h⟩
  exact (pss_cons (ps_set (i := 2) sc_PartReader_part.nd rfl (Or.inl rfl) (pe_mcalE (pv 0) c_PartReader_begin hr (takes_of rfl rfl rfl rfl) (pa_cons (pv 1) pa_nil)))
  (pss_cons (ps_if (pt_cmpR (op_inG (hu_of hr)) (pv 2) (pe_glob (v := .ref (He.ga K "PARTS")) rfl T.g_PARTS rfl) (by rfl)) (pss_one (ps_ret (pe_op op_addG (pe_tupN (pa_cons (pv 2) pa_nil)) (pe_callTy call_tupleG (by rfl) T.n_tuple (by decide +kernel) (pa_cons (pe_lcX (E := E) (takes_of rfl rfl rfl rfl) rfl rfl (own := [("k", 3)]) (g := (gName 3)) (tt := tYes) rfl sc_PartReader_part.nd (pi_range1 (by rfl) T.n_range (pa_cons (pe_ixG (hu_of hr) (pe_glob (v := .ref (He.ga K "PARTS")) rfl T.g_PARTS rfl) (pv 2) (fun _ _ => rfl)) pa_nil)) (blkOk_by (by kernel_rfl)) (fun _ _ _ _ _ => (pg_name (i := 3) sc_PartReader_part.nd rfl (by first | exact Or.inl rfl | exact Or.inr rfl))) (fun _ _ _ _ _ => pts_nil) (fun _ _ _ _ _ => (pe_mcalP (pv 0) c_PartReader_part hr passes_blk (pa_cons (pe_op op_addG (pv 1) pe_int) pa_nil)))) pa_nil))))) pss_nil)
  (pss_cons (ps_if (pt_cmpR (op_eqG (hu2_of hr)) (pv 2) pe_str (nomark _)) (pss_cons (ps_set (i := 4) sc_PartReader_part.nd rfl (Or.inl rfl) (pe_mcalE (pv 0) c_PartReader_let_rows hr (takes_of rfl rfl rfl rfl) (pa_cons (pe_op op_addG (pv 1) pe_int) pa_nil)))
  (pss_one (ps_ret (pe_tupN (pa_cons pe_str (pa_cons (pv 4) (pa_cons (pe_mcalE (pv 0) c_PartReader_part hr (takes_of rfl rfl rfl rfl) (pa_cons (pe_op op_addG (pv 1) pe_int) pa_nil)) pa_nil))))))) pss_nil)
  (pss_cons (ps_if (pt_cmpR (op_eqG (hu2_of hr)) (pe_ixG (hu_of hr) (pv 2) pe_int (fun _ _ => rfl)) pe_str (nomark _)) (pss_one (ps_ret (pe_tupN (pa_cons pe_str (pa_cons (pe_slice sl_any (pv 2) (po_some pe_int) po_none) pa_nil))))) pss_nil)
  (pss_cons (ps_if (pt_cmpR (op_eqG (hu2_of hr)) (pe_ixG (hu_of hr) (pv 2) pe_int (fun _ _ => rfl)) pe_str (nomark _)) (pss_one (ps_ret (pe_tupN (pa_cons pe_str (pa_cons (pe_slice sl_any (pv 2) (po_some pe_int) po_none) pa_nil))))) pss_nil)
  (pss_one (ps_ret (pe_tupN (pa_cons pe_str (pa_cons (pe_callTy call_intA (by rfl) T.n_int (by decide +kernel) (pa_cons (pv 2) pa_nil)) pa_nil))))))))))
abbrev st_PartReader_whole : Stmt := inClass (topS 38) 7
theorem sc_PartReader_whole : FnScope ["self", "found"] ["self"] (defScope st_PartReader_whole) := ⟨rfl, rfl, rfl, by decide +kernel, rfl, by decide +kernel, by decide +kernel⟩
theorem mk_PartReader_whole {P : Program} {w : World} {K : PySem.W.Frag} {mg : Str → Option Value} {base : Heap} (T : TX w K mg) {j : Nat} {sp : Sp} {s_PartReader_part s_PartReader_refuse : Sp} (c_PartReader_part : MCalX P w K mg base j (He.ga K "PartReader") "part" s_PartReader_part) (c_PartReader_refuse : MCalX P w K mg base j (He.ga K "PartReader") "refuse" s_PartReader_refuse)
    (pure_ : PureOkX 1 sp (tx_PartReader_whole K w s_PartReader_part s_PartReader_refuse) 2) : MCalX P w K mg base (j + 1) (He.ga K "PartReader") "whole" sp := by
  obtain ⟨fd, F⟩ := T.d_PartReader_whole
  refine mcalx_mk F T.m_PartReader_whole T.c_PartReader sc_PartReader_whole (F.bindsN fun _ _ _ _ _ _ us hl => match us, hl with | [_], _ => rfl) pure_.len fun cdv A outer s H vs Q E hr h => ?_
  refine ⟨tx_PartReader_whole K w s_PartReader_part s_PartReader_refuse E, ?_, pure_.run vs H Q E h⟩
  exact (pss_cons (ps_set (i := 1) sc_PartReader_whole.nd rfl (Or.inl rfl) (pe_mcalE (pv 0) c_PartReader_part hr (takes_of rfl rfl rfl rfl) (pa_cons pe_int pa_nil)))
  (pss_cons (ps_if (pt_cmpR op_lt (pe_fld (pv 0) rfl) (pe_callB call_lenG (by rfl) T.n_len (by decide +kernel) (pa_cons (pe_fld (pv 0) rfl) pa_nil)) (nomark _)) (pss_one (ps_expr (pe_mcalE0 (pv 0) c_PartReader_refuse hr (takes_of rfl rfl rfl rfl)))) pss_nil)
  (pss_one (ps_ret (pv 1)))))
abbrev st_read_part : Stmt := topS 39
theorem sc_read_part : FnScope ["row", "words", "at"] ["row", "words", "at"] (defScope st_read_part) := ⟨rfl, rfl, rfl, by decide +kernel, rfl, by decide +kernel, by decide +kernel⟩
theorem mk_read_part {P : Program} {w : World} {K : PySem.W.Frag} {mg : Str → Option Value} {base : Heap} (T : TX w K mg) {j : Nat} {sp : Sp} {s_PartReader___init__ s_PartReader_whole : Sp} (c_PartReader___init__ : KCal P w K mg base j "PartReader" (He.ga K "PartReader") s_PartReader___init__) (c_PartReader_whole : MCalX P w K mg base j (He.ga K "PartReader") "whole" s_PartReader_whole)
    (pure_ : PureOkX 3 sp (tx_read_part K w s_PartReader___init__ s_PartReader_whole) 3) : CalX P w K mg base (j + 1) "read_part" sp := by
  obtain ⟨fd, F⟩ := T.d_read_part
  refine calx_mk F T.f_read_part sc_read_part (F.bindsN fun _ _ _ _ _ _ us hl => match us, hl with | [_, _, _], _ => rfl) pure_.len fun cdv A outer s H vs Q E hr h => ?_
  refine ⟨tx_read_part K w s_PartReader___init__ s_PartReader_whole E, ?_, pure_.run vs H Q E h⟩
  exact (pss_one (ps_ret (pe_mcalE0 (pe_kcal c_PartReader___init__ hr rfl (pa_cons (pv 0) (pa_cons (pv 1) (pa_cons (pv 2) pa_nil)))) c_PartReader_whole hr (takes_of rfl rfl rfl rfl))))
abbrev st_read_function : Stmt := topS 40
theorem sc_read_function : FnScope ["row", "words", "at", "names"] ["row", "words"] (defScope st_read_function) := ⟨rfl, rfl, rfl, by decide +kernel, rfl, by decide +kernel, by decide +kernel⟩
theorem mk_read_function {P : Program} {w : World} {K : PySem.W.Frag} {mg : Str → Option Value} {base : Heap} (T : TX w K mg) {j : Nat} {sp : Sp} {s_is_name s_NoText___init__ s_is_marked s_read_part : Sp} (c_is_name : Cal P w K mg base j "is_name" s_is_name) (c_NoText___init__ : Xal P w K mg base j "NoText" (He.ga K "NoText") s_NoText___init__) (c_is_marked : Cal P w K mg base j "is_marked" s_is_marked) (c_read_part : CalX P w K mg base j "read_part" s_read_part)
    (pure_ : PureOkX 2 sp (tx_read_function K w s_is_name s_NoText___init__ s_is_marked s_read_part) 4) : CalX P w K mg base (j + 1) "read_function" sp := by
  obtain ⟨fd, F⟩ := T.d_read_function
  refine calx_mk F T.f_read_function sc_read_function (F.bindsN fun _ _ _ _ _ _ us hl => match us, hl with | [_, _], _ => rfl) pure_.len fun cdv A outer s H vs Q E hr h => ?_
  refine ⟨tx_read_function K w s_is_name s_NoText___init__ s_is_marked s_read_part E, ?_, pure_.run vs H Q E h⟩
  exact (pss_cons (ps_if (pt_not (pt_tru (pe_cal c_is_name hr rfl (pa_cons (pe_ixG (hu_of hr) (pv 1) pe_int (fun _ _ => rfl)) pa_nil)) (by intro _; rfl))) (pss_one (ps_raiseI rfl (takes_of rfl rfl rfl rfl) c_NoText___init__ hr rfl (pa_cons (pv 0) (pa_cons pe_int pa_nil)))) pss_nil)
  (pss_cons (ps_set (i := 2) sc_read_function.nd rfl (Or.inl rfl) pe_int)
  (pss_cons (ps_set (i := 3) sc_read_function.nd rfl (Or.inl rfl) (pe_lstN pa_nil))
  (pss_cons (ps_while (passes_of rfl) (PW.pt (pw_and (pt_cmpR op_lt (pv 2) (pe_callB call_lenG (by rfl) T.n_len (by decide +kernel) (pa_cons (pv 1) pa_nil)) (nomark _)) (pw_and (pt_tru (pe_cal c_is_marked hr rfl (pa_cons (pe_ixG (hu_of hr) (pv 1) (pv 2) (fun _ _ => rfl)) (pa_cons pe_str pa_nil))) (by intro _; rfl)) (pw_and1 (pt_cmpR op_lt (pe_callB call_lenG (by rfl) T.n_len (by decide +kernel) (pa_cons (pv 3) pa_nil)) (pe_gc rfl T.v_MOST_NAMES) (nomark _)))))) (pss_cons (ps_expr (pe_bm PySem.F.plainAttrs_list PySem.F.slot_list_append PySem.F.type_list_append mt_appendG (pv 3) (pa_cons (pe_slice sl_any (pe_ixG (hu_of hr) (pv 1) (pv 2) (fun _ _ => rfl)) (po_some pe_int) po_none) pa_nil)))
  (pss_one (ps_set (i := 2) sc_read_function.nd rfl (Or.inl rfl) (pe_op op_addG (pv 2) pe_int)))))
  (pss_cons (ps_if (PW.pt (pw_or (pt_cmpR (op_eqG (hu2_of hr)) (pv 2) (pe_callB call_lenG (by rfl) T.n_len (by decide +kernel) (pa_cons (pv 1) pa_nil)) (nomark _)) (pw_or1 (pt_cmpR (op_neG (hu2_of hr)) (pe_ixG (hu_of hr) (pv 1) (pv 2) (fun _ _ => rfl)) pe_str (nomark _))))) (pss_one (ps_raiseI rfl (takes_of rfl rfl rfl rfl) c_NoText___init__ hr rfl (pa_cons (pv 0) (pa_cons (pv 2) pa_nil)))) pss_nil)
  (pss_one (ps_ret (pe_tupN (pa_cons (pe_ixG (hu_of hr) (pv 1) pe_int (fun _ _ => rfl)) (pa_cons (pe_callTy call_tupleG (by rfl) T.n_tuple (by decide +kernel) (pa_cons (pv 3) pa_nil)) (pa_cons (pe_calE c_read_part hr rfl (takes_of rfl rfl rfl rfl) (pa_cons (pv 0) (pa_cons (pv 1) (pa_cons (pe_op op_addG (pv 2) pe_int) pa_nil)))) pa_nil)))))))))))
abbrev st_read : Stmt := topS 41
theorem sc_read : FnScope ["text", "functions", "asked", "rows", "row", "line", "words"] ["text"] (defScope st_read) := ⟨rfl, rfl, rfl, by decide +kernel, rfl, by decide +kernel, by decide +kernel⟩
theorem mk_read {P : Program} {w : World} {K : PySem.W.Frag} {mg : Str → Option Value} {base : Heap} (T : TX w K mg) {j : Nat} {sp : Sp} {s_NoText___init__ s_read_part s_read_function s_looked : Sp} (c_NoText___init__ : Xal P w K mg base j "NoText" (He.ga K "NoText") s_NoText___init__) (c_read_part : CalX P w K mg base j "read_part" s_read_part) (c_read_function : CalX P w K mg base j "read_function" s_read_function) (c_looked : CalX P w K mg base j "looked" s_looked)
    (pure_ : PureOkX 1 sp (tx_read K w s_NoText___init__ s_read_part s_read_function s_looked) 7) : CalX P w K mg base (j + 1) "read" sp := by
  obtain ⟨fd, F⟩ := T.d_read
  refine calx_mk F T.f_read sc_read (F.bindsN fun _ _ _ _ _ _ us hl => match us, hl with | [_], _ => rfl) pure_.len fun cdv A outer s H vs Q E hr h => ?_
  refine ⟨tx_read K w s_NoText___init__ s_read_part s_read_function s_looked E, ?_, pure_.run vs H Q E h⟩
  exact (pss_cons (ps_set (i := 1) sc_read.nd rfl (Or.inl rfl) (pe_lstN pa_nil))
  (pss_cons (ps_set (i := 2) sc_read.nd rfl (Or.inl rfl) pe_non)
  (pss_cons (ps_set (i := 3) sc_read.nd rfl (Or.inl rfl) (pe_splitG (pv 0) pe_str))
  (pss_cons (ps_for (passes_of rfl) rfl (pi_enum (by rfl) T.n_enumerate (pa_cons (pv 3) pa_nil)) (pg_tup rfl (pgs_cons (pg_name (i := 4) sc_read.nd rfl (by first | exact Or.inl rfl | exact Or.inr rfl)) (pgs_cons (pg_name (i := 5) sc_read.nd rfl (by first | exact Or.inl rfl | exact Or.inr rfl)) pgs_nil))) (pss_cons (ps_set (i := 6) sc_read.nd rfl (Or.inl rfl) (pe_splitG (pv 5) pe_str))
  (pss_cons (ps_if (pt_cmpR op_isNotG (pv 2) pe_non (nomark _)) (pss_one (ps_raiseI rfl (takes_of rfl rfl rfl rfl) c_NoText___init__ hr rfl (pa_cons (pv 4) (pa_cons pe_int pa_nil)))) pss_nil)
  (pss_one (ps_if (pt_cmpR (op_eqG (hu2_of hr)) (pe_ixG (hu_of hr) (pv 6) pe_int (fun _ _ => rfl)) pe_str (nomark _)) (pss_one (ps_set (i := 2) sc_read.nd rfl (Or.inl rfl) (pe_calE c_read_part hr rfl (takes_of rfl rfl rfl rfl) (pa_cons (pv 4) (pa_cons (pv 6) (pa_cons pe_int pa_nil)))))) (pss_one (ps_if (pt_cmpR (op_eqG (hu2_of hr)) (pe_callB call_lenG (by rfl) T.n_len (by decide +kernel) (pa_cons (pv 1) pa_nil)) (pe_gc rfl T.v_MOST_FUNCTIONS) (nomark _)) (pss_one (ps_raiseI rfl (takes_of rfl rfl rfl rfl) c_NoText___init__ hr rfl (pa_cons (pv 4) (pa_cons pe_int pa_nil)))) (pss_one (ps_expr (pe_bm PySem.F.plainAttrs_list PySem.F.slot_list_append PySem.F.type_list_append mt_appendG (pv 1) (pa_cons (pe_calE c_read_function hr rfl (takes_of rfl rfl rfl rfl) (pa_cons (pv 4) (pa_cons (pv 6) pa_nil))) pa_nil)))))))))))
  (pss_cons (ps_if (pt_cmpR op_isG (pv 2) pe_non (nomark _)) (pss_one (ps_raiseI rfl (takes_of rfl rfl rfl rfl) c_NoText___init__ hr rfl (pa_cons (pe_callB call_lenG (by rfl) T.n_len (by decide +kernel) (pa_cons (pv 3) pa_nil)) (pa_cons pe_int pa_nil)))) pss_nil)
  (pss_one (ps_ret (pe_calE c_looked hr rfl (takes_of rfl rfl rfl rfl) (pa_cons (pe_tupN (pa_cons (pe_callTy call_tupleG (by rfl) T.n_tuple (by decide +kernel) (pa_cons (pv 1) pa_nil)) (pa_cons (pv 2) pa_nil))) pa_nil)))))))))
abbrev st_law_pen : Stmt := topS 43
theorem sc_law_pen : FnScope ["_law_script"] ["_law_script"] (defScope st_law_pen) := ⟨rfl, rfl, rfl, by decide +kernel, rfl, by decide +kernel, by decide +kernel⟩
theorem mk_law_pen {P : Program} {w : World} {K : PySem.W.Frag} {mg : Str → Option Value} {base : Heap} (T : TX w K mg) {j : Nat} {sp : Sp}
    (pure_ : PureOk 1 sp (t_law_pen K w ) 1) : Cal P w K mg base (j + 1) "_law_pen" sp := by
  obtain ⟨fd, F⟩ := T.d_law_pen
  refine cal_mk F T.f_law_pen sc_law_pen (F.bindsN fun _ _ _ _ _ _ us hl => match us, hl with | [_], _ => rfl) pure_.len fun cdv A outer s H vs Q E hr h => ?_
  refine ⟨t_law_pen K w , PSs.nox ?_, pure_.run vs H Q E h⟩
  exact (pss_one (ps_ret (pe_lstN (pa_cons (pe_callTy (call_listG rfl) (by rfl) T.n_list (by decide +kernel) (pa_cons (pe_slice sl_any (pv 0) po_none (po_some pe_int)) pa_nil)) (pa_cons pe_int (pa_cons pe_int pa_nil))))))
abbrev st_law_draw : Stmt := topS 44
theorem sc_law_draw : FnScope ["_law_pen_here", "_law_many", "_law_digit", "_law_at", "_law_cell", "_law_prime", "_law_number"] ["_law_pen_here", "_law_many"] (defScope st_law_draw) := ⟨rfl, rfl, rfl, by decide +kernel, rfl, by decide +kernel, by decide +kernel⟩
theorem mk_law_draw {P : Program} {w : World} {K : PySem.W.Frag} {mg : Str → Option Value} {base : Heap} (T : TX w K mg) {j : Nat} {sp : Sp}
    (pure_ : PureOk 2 sp (t_law_draw K w ) 7) : Cal P w K mg base (j + 1) "_law_draw" sp := by
  obtain ⟨fd, F⟩ := T.d_law_draw
  refine cal_mk F T.f_law_draw sc_law_draw (F.bindsN fun _ _ _ _ _ _ us hl => match us, hl with | [_, _], _ => rfl) pure_.len fun cdv A outer s H vs Q E hr h => ?_
  refine ⟨t_law_draw K w , PSs.nox ?_, pure_.run vs H Q E h⟩
  exact (pss_cons (ps_if (pt_cmpR op_gt (pe_ixG (hu_of hr) (pv 0) pe_int (fun _ _ => rfl)) pe_int (nomark _)) (pss_cons (ps_set (i := 2) sc_law_draw.nd rfl (Or.inl rfl) (pe_op op_mod (pe_ixG (hu_of hr) (pv 0) pe_int (fun _ _ => rfl)) (pv 1)))
  (pss_cons (ps_asg (pe_op op_fdivW (pe_ixG (hu_of hr) (pv 0) pe_int (fun _ _ => rfl)) (pv 1)) (pg_sub (pv 0) pe_int (set_any (hu_of hr))))
  (pss_one (ps_ret (pv 2))))) pss_nil)
  (pss_cons (ps_set (i := 3) sc_law_draw.nd rfl (Or.inl rfl) (pe_ixG (hu_of hr) (pv 0) pe_int (fun _ _ => rfl)))
  (pss_cons (ps_asg (pe_op op_addG (pv 3) pe_int) (pg_sub (pv 0) pe_int (set_any (hu_of hr))))
  (pss_cons (ps_set (i := 4) sc_law_draw.nd rfl (Or.inl rfl) (pe_ixG (hu_of hr) (pe_op op_addG (pe_ixG (hu_of hr) (pv 0) pe_int (fun _ _ => rfl)) (pe_lstN (pa_cons pe_int pa_nil))) (pe_op op_mod (pv 3) (pe_callB (call_max2 rfl) (by rfl) T.n_max (by decide +kernel) (pa_cons pe_int (pa_cons (pe_callB call_lenG (by rfl) T.n_len (by decide +kernel) (pa_cons (pe_ixG (hu_of hr) (pv 0) pe_int (fun _ _ => rfl)) pa_nil)) pa_nil)))) (fun _ _ => rfl)))
  (pss_cons (ps_if (PW.pt (pw_and (pt_cmpR op_lt (pv 3) (pe_callB call_lenG (by rfl) T.n_len (by decide +kernel) (pa_cons (pe_ixG (hu_of hr) (pv 0) pe_int (fun _ _ => rfl)) pa_nil)) (nomark _)) (pw_and1 (pt_cmpR op_ge (pe_callB call_abs (by rfl) T.n_abs (by decide +kernel) (pa_cons (pv 4) pa_nil)) (pe_op op_pow pe_int pe_int) (nomark _))))) (pss_cons (ps_asg (pe_op op_fdivW (pe_callB call_abs (by rfl) T.n_abs (by decide +kernel) (pa_cons (pv 4) pa_nil)) (pv 1)) (pg_sub (pv 0) pe_int (set_any (hu_of hr))))
  (pss_one (ps_ret (pe_op op_mod (pe_callB call_abs (by rfl) T.n_abs (by decide +kernel) (pa_cons (pv 4) pa_nil)) (pv 1))))) pss_nil)
  (pss_cons (ps_set (i := 5) sc_law_draw.nd rfl (Or.inl rfl) (pe_ixG (hu_of hr) (pe_lstN (pa_cons pe_int (pa_cons pe_int (pa_cons pe_int (pa_cons pe_int (pa_cons pe_int (pa_cons pe_int (pa_cons pe_int pa_nil)))))))) (pe_op op_mod (pv 3) pe_int) (fun _ _ => rfl)))
  (pss_cons (ps_set (i := 6) sc_law_draw.nd rfl (Or.inl rfl) (pe_op op_mod (pe_op op_mulG (pe_op op_addG (pe_op op_addG (pe_op op_mod (pv 4) pe_int) (pe_op op_mulG pe_int (pv 3))) pe_int) pe_int) (pv 5)))
  (pss_cons (ps_set (i := 6) sc_law_draw.nd rfl (Or.inl rfl) (pe_op op_mod (pe_op op_addG (pe_op op_addG (pe_op op_mulG (pv 6) (pv 6)) (pe_op op_mulG pe_int (pv 6))) (pv 3)) pe_int))
  (pss_one (ps_ret (pe_op op_mod (pe_op op_fdivW (pe_op op_mod (pe_op op_mulG (pv 6) pe_int) pe_int) pe_int) (pv 1))))))))))))
abbrev st_law_names : Stmt := topS 45
theorem sc_law_names : FnScope ["_law_pen_here", "_law_many", "_law_letters", "_law_word", "_law_k", "_law_at", "_law_first", "_law_by"] ["_law_pen_here", "_law_many"] (defScope st_law_names) := ⟨rfl, rfl, rfl, by decide +kernel, rfl, by decide +kernel, by decide +kernel⟩
theorem mk_law_names {P : Program} {w : World} {K : PySem.W.Frag} {mg : Str → Option Value} {base : Heap} (T : TX w K mg) {j : Nat} {sp : Sp} {s_law_draw : Sp} (c_law_draw : Cal P w K mg base j "_law_draw" s_law_draw)
    (pure_ : PureOk 2 sp (t_law_names K w s_law_draw) 8) : Cal P w K mg base (j + 1) "_law_names" sp := by
  obtain ⟨fd, F⟩ := T.d_law_names
  refine cal_mk F T.f_law_names sc_law_names (F.bindsN fun _ _ _ _ _ _ us hl => match us, hl with | [_, _], _ => rfl) pure_.len fun cdv A outer s H vs Q E hr h => ?_
  refine ⟨t_law_names K w s_law_draw, PSs.nox ?_, pure_.run vs H Q E h⟩
  exact (pss_cons (ps_set (i := 2) sc_law_names.nd rfl (Or.inr rfl) pe_str)
  (pss_cons (ps_set (i := 3) sc_law_names.nd rfl (Or.inr rfl) (pe_join pe_str (pe_lc (own := [("_law_k", 4)]) (g := (gName 4)) (tt := tYes) rfl sc_law_names.nd (pi_range1 (by rfl) T.n_range (pa_cons (pe_op op_addG pe_int (pe_cal c_law_draw hr rfl (pa_cons (pv 0) (pa_cons pe_int pa_nil)))) pa_nil)) (blkOk_by (by kernel_rfl)) (fun _ _ _ _ _ => (pg_name (i := 4) sc_law_names.nd rfl (by first | exact Or.inl rfl | exact Or.inr rfl))) (fun _ _ _ _ _ => pts_nil) (fun _ _ _ _ _ => (pe_ixG (hu_of hr) (pv 2) (pe_cal c_law_draw hr rfl (pa_cons (pv 0) (pa_cons pe_int pa_nil))) (fun _ _ => rfl))))))
  (pss_cons (ps_set (i := 5) sc_law_names.nd rfl (Or.inr rfl) (pe_cal c_law_draw hr rfl (pa_cons (pv 0) (pa_cons (pe_callB call_lenG (by rfl) T.n_len (by decide +kernel) (pa_cons (pv 3) pa_nil)) pa_nil))))
  (pss_cons (ps_set (i := 6) sc_law_names.nd rfl (Or.inr rfl) (pe_cal c_law_draw hr rfl (pa_cons (pv 0) (pa_cons pe_int pa_nil))))
  (pss_cons (ps_set (i := 7) sc_law_names.nd rfl (Or.inr rfl) (pe_ixG (hu_of hr) (pe_lstN (pa_cons pe_int (pa_cons pe_int (pa_cons pe_int (pa_cons pe_int (pa_cons pe_int (pa_cons pe_int pa_nil))))))) (pe_cal c_law_draw hr rfl (pa_cons (pv 0) (pa_cons pe_int pa_nil))) (fun _ _ => rfl)))
  (pss_one (ps_ret (pe_lc (own := [("_law_k", 4)]) (g := (gName 4)) (tt := tYes) rfl sc_law_names.nd (pi_range1 (by rfl) T.n_range (pa_cons (pv 1) pa_nil)) (blkOk_by (by kernel_rfl)) (fun _ _ _ _ _ => (pg_name (i := 4) sc_law_names.nd rfl (by first | exact Or.inl rfl | exact Or.inr rfl))) (fun _ _ _ _ _ => pts_nil) (fun _ _ _ _ _ => (pe_op op_addG (pe_op op_addG (pe_slice sl_any (pv 3) po_none (po_some (pv 5))) (pe_ixG (hu_of hr) (pv 2) (pe_op op_mod (pe_op op_addG (pv 6) (pe_op op_mulG (pv 7) (pv 4))) pe_int) (fun _ _ => rfl))) (pe_slice sl_any (pv 3) (po_some (pe_op op_addG (pv 5) pe_int)) po_none)))))))))))
abbrev st_law_base : Stmt := topS 46
theorem sc_law_base : FnScope ["_law_pen_here", "_law_names_here", "_law_rows"] ["_law_pen_here"] (defScope st_law_base) := ⟨rfl, rfl, rfl, by decide +kernel, rfl, by decide +kernel, by decide +kernel⟩
theorem mk_law_base {P : Program} {w : World} {K : PySem.W.Frag} {mg : Str → Option Value} {base : Heap} (T : TX w K mg) {j : Nat} {sp : Sp} {s_law_names s_law_draw : Sp} (c_law_names : Cal P w K mg base j "_law_names" s_law_names) (c_law_draw : Cal P w K mg base j "_law_draw" s_law_draw)
    (pure_ : PureOk 1 sp (t_law_base K w s_law_names s_law_draw) 3) : Cal P w K mg base (j + 1) "_law_base" sp := by
  obtain ⟨fd, F⟩ := T.d_law_base
  refine cal_mk F T.f_law_base sc_law_base (F.bindsN fun _ _ _ _ _ _ us hl => match us, hl with | [_], _ => rfl) pure_.len fun cdv A outer s H vs Q E hr h => ?_
  refine ⟨t_law_base K w s_law_names s_law_draw, PSs.nox ?_, pure_.run vs H Q E h⟩
  exact (pss_cons (ps_set (i := 1) sc_law_base.nd rfl (Or.inl rfl) (pe_cal c_law_names hr rfl (pa_cons (pv 0) (pa_cons pe_int pa_nil))))
  (pss_cons (ps_set (i := 2) sc_law_base.nd rfl (Or.inl rfl) (pe_lstN (pa_cons (pe_lstN (pa_cons (pe_ixG (hu_of hr) (pv 1) pe_int (fun _ _ => rfl)) (pa_cons pe_str (pa_cons pe_str (pa_cons pe_str (pa_cons pe_str (pa_cons (pe_callTy call_str_int (by rfl) T.n_str (by decide +kernel) (pa_cons (pe_cal c_law_draw hr rfl (pa_cons (pv 0) (pa_cons pe_int pa_nil))) pa_nil)) pa_nil))))))) (pa_cons (pe_lstN (pa_cons (pe_ixG (hu_of hr) (pv 1) pe_int (fun _ _ => rfl)) (pa_cons pe_str (pa_cons pe_str pa_nil)))) pa_nil))))
  (pss_cons (ps_expr (pe_bm PySem.F.plainAttrs_list PySem.F.slot_list_append PySem.F.type_list_append mt_appendG (pv 2) (pa_cons (pe_lstN (pa_cons (pe_ixG (hu_of hr) (pv 1) pe_int (fun _ _ => rfl)) (pa_cons pe_str (pa_cons pe_str (pa_cons pe_str (pa_cons pe_str (pa_cons pe_str (pa_cons pe_str (pa_cons pe_str (pa_cons pe_str (pa_cons pe_str (pa_cons pe_str pa_nil)))))))))))) pa_nil)))
  (pss_one (ps_ret (pe_op op_addG (pe_slice sl_any (pv 2) po_none (po_some (pe_cal c_law_draw hr rfl (pa_cons (pv 0) (pa_cons pe_int pa_nil))))) (pe_lstN (pa_cons (pe_lstN (pa_cons pe_str (pa_cons (pe_op op_addG (pe_op op_mulS pe_str (pe_cal c_law_draw hr rfl (pa_cons (pv 0) (pa_cons pe_int pa_nil)))) pe_str) pa_nil))) pa_nil))))))))
abbrev st_law_text : Stmt := topS 47
theorem sc_law_text : FnScope ["_law_rows", "_law_words"] ["_law_rows"] (defScope st_law_text) := ⟨rfl, rfl, rfl, by decide +kernel, rfl, by decide +kernel, by decide +kernel⟩
theorem mk_law_text {P : Program} {w : World} {K : PySem.W.Frag} {mg : Str → Option Value} {base : Heap} (T : TX w K mg) {j : Nat} {sp : Sp}
    (pure_ : PureOk 1 sp (t_law_text K w ) 2) : Cal P w K mg base (j + 1) "_law_text" sp := by
  obtain ⟨fd, F⟩ := T.d_law_text
  refine cal_mk F T.f_law_text sc_law_text (F.bindsN fun _ _ _ _ _ _ us hl => match us, hl with | [_], _ => rfl) pure_.len fun cdv A outer s H vs Q E hr h => ?_
  refine ⟨t_law_text K w , PSs.nox ?_, pure_.run vs H Q E h⟩
  exact (pss_one (ps_ret (pe_join pe_str (pe_lc (own := [("_law_words", 1)]) (g := (gName 1)) (tt := tYes) rfl sc_law_text.nd (pi_seq (pv 0)) (blkOk_by (by kernel_rfl)) (fun _ _ _ _ _ => (pg_name (i := 1) sc_law_text.nd rfl (by first | exact Or.inl rfl | exact Or.inr rfl))) (fun _ _ _ _ _ => pts_nil) (fun _ _ _ _ _ => (pe_join pe_str (pv 1)))))))
abbrev st_law_is_name : Stmt := topS 48
theorem sc_law_is_name : FnScope ["_law_thing", "_law_sign"] ["_law_thing"] (defScope st_law_is_name) := ⟨rfl, rfl, rfl, by decide +kernel, rfl, by decide +kernel, by decide +kernel⟩
theorem mk_law_is_name {P : Program} {w : World} {K : PySem.W.Frag} {mg : Str → Option Value} {base : Heap} (T : TX w K mg) {j : Nat} {sp : Sp}
    (pure_ : PureOk 1 sp (t_law_is_name K w ) 2) : Cal P w K mg base (j + 1) "_law_is_name" sp := by
  obtain ⟨fd, F⟩ := T.d_law_is_name
  refine cal_mk F T.f_law_is_name sc_law_is_name (F.bindsN fun _ _ _ _ _ _ us hl => match us, hl with | [_], _ => rfl) pure_.len fun cdv A outer s H vs Q E hr h => ?_
  refine ⟨t_law_is_name K w , PSs.nox ?_, pure_.run vs H Q E h⟩
  exact (pss_cons (ps_if (PW.pt (pw_or (pt_not (pt_tru (pe_callB call_isiG (by rfl) T.n_isinstance (by decide +kernel) (pa_cons (pv 0) (pa_cons (pe_bltn (v := .ty "str") rfl T.n_str (by decide +kernel) rfl) pa_nil))) (by intro _; rfl))) (pw_or (pt_cmpR op_lt (pe_callB call_lenG (by rfl) T.n_len (by decide +kernel) (pa_cons (pv 0) pa_nil)) pe_int (nomark _)) (pw_or1 (pt_cmpR op_gt (pe_callB call_lenG (by rfl) T.n_len (by decide +kernel) (pa_cons (pv 0) pa_nil)) pe_int (nomark _)))))) (pss_one (ps_ret pe_bl)) pss_nil)
  (pss_one (ps_ret (pe_cmpR (op_eqG (hu2_of hr)) (pe_lc (own := [("_law_sign", 1)]) (g := (gName 1)) (tt := (tTest (tOp (rInG K w true) (tVar 1) (tC (.str "abcdefghijklmnopqrstuvwxyz"))))) rfl sc_law_is_name.nd (pi_seq (pv 0)) (blkOk_by (by kernel_rfl)) (fun _ _ _ _ _ => (pg_name (i := 1) sc_law_is_name.nd rfl (by first | exact Or.inl rfl | exact Or.inr rfl))) (fun _ _ _ _ _ => (pts_one (pt_cmpR (op_notInG (hu_of hr)) (pv 1) pe_str (by rfl)))) (fun _ _ _ _ _ => (pv 1))) (pe_lstN pa_nil) (nomark _)))))
abbrev st_law_inner : Stmt := topS 49
theorem sc_law_inner : FnScope ["_law_thing", "_law_counts", "_law_row"] ["_law_thing"] (defScope st_law_inner) := ⟨rfl, rfl, rfl, by decide +kernel, rfl, by decide +kernel, by decide +kernel⟩
theorem mk_law_inner {P : Program} {w : World} {K : PySem.W.Frag} {mg : Str → Option Value} {base : Heap} (T : TX w K mg) {j : Nat} {sp : Sp} {s_law_is_name : Sp} (c_law_is_name : Cal P w K mg base j "_law_is_name" s_law_is_name)
    (pure_ : PureOk 1 sp (t_law_innerX K w s_law_is_name) 3) : Cal P w K mg base (j + 1) "_law_inner" sp := by
  obtain ⟨fd, F⟩ := T.d_law_inner
  refine cal_mk F T.f_law_inner sc_law_inner (F.bindsN fun _ _ _ _ _ _ us hl => match us, hl with | [_], _ => rfl) pure_.len fun cdv A outer s H vs Q E hr h => ?_
  refine ⟨t_law_innerX K w s_law_is_name, PSs.nox ?_, pure_.run vs H Q E h⟩
  exact (pss_cons (ps_if (PW.pt (pw_or (pt_not (pt_tru (pe_callB call_isiG (by rfl) T.n_isinstance (by decide +kernel) (pa_cons (pv 0) (pa_cons (pe_bltn (v := .ty "tuple") rfl T.n_tuple (by decide +kernel) rfl) pa_nil))) (by intro _; rfl))) (pw_or (pt_cmpR op_lt (pe_callB call_lenG (by rfl) T.n_len (by decide +kernel) (pa_cons (pv 0) pa_nil)) pe_int (nomark _)) (pw_or1 (pt_not (pt_tru (pe_callB call_isiG (by rfl) T.n_isinstance (by decide +kernel) (pa_cons (pe_ixG (hu_of hr) (pv 0) pe_int (fun _ _ => rfl)) (pa_cons (pe_bltn (v := .ty "str") rfl T.n_str (by decide +kernel) rfl) pa_nil))) (by intro _; rfl))))))) (pss_one (ps_ret pe_non)) pss_nil)
  (pss_cons (ps_set (i := 1) sc_law_inner.nd rfl (Or.inl rfl) (pe_dispN (pps_cons (pe_cl pe_str) (pe_cl pe_int) (pps_cons (pe_cl pe_str) (pe_cl pe_int) (pps_cons (pe_cl pe_str) (pe_cl pe_int) (pps_cons (pe_cl pe_str) (pe_cl pe_int) (pps_cons (pe_cl pe_str) (pe_cl pe_int) (pps_cons (pe_cl pe_str) (pe_cl pe_int) (pps_cons (pe_cl pe_str) (pe_cl pe_int) (pps_cons (pe_cl pe_str) (pe_cl pe_int) (pps_cons (pe_cl pe_str) (pe_cl pe_int) pps_nil))))))))) (by rfl) (by rfl) (fun z => by cases z) (by decide)))
  (pss_cons (ps_if (PW.pt (pw_and (pt_cmpR (op_inG (hu_of hr)) (pe_ixG (hu_of hr) (pv 0) pe_int (fun _ _ => rfl)) (pv 1) (by rfl)) (pw_and1 (pt_cmpR (op_eqG (hu2_of hr)) (pe_callB call_lenG (by rfl) T.n_len (by decide +kernel) (pa_cons (pv 0) pa_nil)) (pe_op op_addG (pe_ixG (hu_of hr) (pv 1) (pe_ixG (hu_of hr) (pv 0) pe_int (fun _ _ => rfl)) (fun _ _ => rfl)) pe_int) (nomark _))))) (pss_one (ps_ret (pe_callTy (call_listG rfl) (by rfl) T.n_list (by decide +kernel) (pa_cons (pe_slice sl_any (pv 0) (po_some pe_int) po_none) pa_nil)))) pss_nil)
  (pss_cons (ps_if (PW.pt (pw_and (pt_cmpR (op_inG (hu_of hr)) (pe_ixG (hu_of hr) (pv 0) pe_int (fun _ _ => rfl)) (pe_tupN (pa_cons pe_str (pa_cons pe_str pa_nil))) (by rfl)) (pw_and (pt_cmpR (op_eqG (hu2_of hr)) (pe_callB call_lenG (by rfl) T.n_len (by decide +kernel) (pa_cons (pv 0) pa_nil)) pe_int (nomark _)) (pw_and1 (pt_tru (pe_cal c_law_is_name hr rfl (pa_cons (pe_ixG (hu_of hr) (pv 0) pe_int (fun _ _ => rfl)) pa_nil)) (by intro _; rfl)))))) (pss_one (ps_ret (pe_lstN pa_nil))) pss_nil)
  (pss_cons (ps_if (PW.pt (pw_and (pt_cmpR (op_eqG (hu2_of hr)) (pe_ixG (hu_of hr) (pv 0) pe_int (fun _ _ => rfl)) pe_str (nomark _)) (pw_and (pt_cmpR (op_eqG (hu2_of hr)) (pe_callB call_lenG (by rfl) T.n_len (by decide +kernel) (pa_cons (pv 0) pa_nil)) pe_int (nomark _)) (pw_and (pt_tru (pe_callB call_isiG (by rfl) T.n_isinstance (by decide +kernel) (pa_cons (pe_ixG (hu_of hr) (pv 0) pe_int (fun _ _ => rfl)) (pa_cons (pe_bltn (v := .ty "int") rfl T.n_int (by decide +kernel) rfl) pa_nil))) (by intro _; rfl)) (pw_and1 (pt_not (pt_tru (pe_callB call_isiG (by rfl) T.n_isinstance (by decide +kernel) (pa_cons (pe_ixG (hu_of hr) (pv 0) pe_int (fun _ _ => rfl)) (pa_cons (pe_bltn (v := .ty "bool") rfl T.n_bool (by decide +kernel) rfl) pa_nil))) (by intro _; rfl)))))))) (pss_one (ps_ret (pe_ifExp (pt_cmpR op_lt (pe_callB call_abs (by rfl) T.n_abs (by decide +kernel) (pa_cons (pe_ixG (hu_of hr) (pv 0) pe_int (fun _ _ => rfl)) pa_nil)) (pe_op op_pow pe_int pe_int) (nomark _)) (pe_lstN pa_nil) pe_non))) pss_nil)
  (pss_cons (ps_if (PW.pt (pw_and (pt_cmpR (op_eqG (hu2_of hr)) (pe_ixG (hu_of hr) (pv 0) pe_int (fun _ _ => rfl)) pe_str (nomark _)) (pw_and (pt_cmpR (op_eqG (hu2_of hr)) (pe_callB call_lenG (by rfl) T.n_len (by decide +kernel) (pa_cons (pv 0) pa_nil)) pe_int (nomark _)) (pw_and (pt_tru (pe_callB call_isiG (by rfl) T.n_isinstance (by decide +kernel) (pa_cons (pe_ixG (hu_of hr) (pv 0) pe_int (fun _ _ => rfl)) (pa_cons (pe_bltn (v := .ty "tuple") rfl T.n_tuple (by decide +kernel) rfl) pa_nil))) (by intro _; rfl)) (pw_and1 (pt_chain op_le op_le pe_int (pe_callB call_lenG (by rfl) T.n_len (by decide +kernel) (pa_cons (pe_ixG (hu_of hr) (pv 0) pe_int (fun _ _ => rfl)) pa_nil)) pe_int)))))) (pss_cons (ps_for PassesOwn.never rfl (pi_seq (pe_ixG (hu_of hr) (pv 0) pe_int (fun _ _ => rfl))) (pg_name (i := 2) sc_law_inner.nd rfl (by first | exact Or.inl rfl | exact Or.inr rfl)) (pss_one (ps_if (PW.pt (pw_or (pt_not (pt_tru (pe_callB call_isiG (by rfl) T.n_isinstance (by decide +kernel) (pa_cons (pv 2) (pa_cons (pe_bltn (v := .ty "tuple") rfl T.n_tuple (by decide +kernel) rfl) pa_nil))) (by intro _; rfl))) (pw_or (pt_cmpR (op_neG (hu2_of hr)) (pe_callB call_lenG (by rfl) T.n_len (by decide +kernel) (pa_cons (pv 2) pa_nil)) pe_int (nomark _)) (pw_or1 (pt_not (pt_tru (pe_cal c_law_is_name hr rfl (pa_cons (pe_ixG (hu_of hr) (pv 2) pe_int (fun _ _ => rfl)) pa_nil)) (by intro _; rfl))))))) (pss_one (ps_ret pe_non)) pss_nil)))
  (pss_one (ps_ret (pe_op op_addG (pe_lc (own := [("_law_row", 2)]) (g := (gName 2)) (tt := tYes) rfl sc_law_inner.nd (pi_seq (pe_ixG (hu_of hr) (pv 0) pe_int (fun _ _ => rfl))) (blkOk_by (by kernel_rfl)) (fun _ _ _ _ _ => (pg_name (i := 2) sc_law_inner.nd rfl (by first | exact Or.inl rfl | exact Or.inr rfl))) (fun _ _ _ _ _ => pts_nil) (fun _ _ _ _ _ => (pe_ixG (hu_of hr) (pv 2) pe_int (fun _ _ => rfl)))) (pe_lstN (pa_cons (pe_ixG (hu_of hr) (pv 0) pe_int (fun _ _ => rfl)) pa_nil)))))) pss_nil)
  (pss_one (ps_ret pe_non))))))))
abbrev st_law_is_body : Stmt := topS 50
theorem sc_law_is_body : FnScope ["_law_thing", "_law_rows", "_law_at", "_law_part", "_law_deep", "_law_inner_here", "_law_one"] ["_law_thing"] (defScope st_law_is_body) := ⟨rfl, rfl, rfl, by decide +kernel, rfl, by decide +kernel, by decide +kernel⟩
theorem mk_law_is_body {P : Program} {w : World} {K : PySem.W.Frag} {mg : Str → Option Value} {base : Heap} (T : TX w K mg) {j : Nat} {sp : Sp} {s_law_inner : Sp} (c_law_inner : Cal P w K mg base j "_law_inner" s_law_inner)
    (pure_ : PureOk 1 sp (t_law_is_body K w s_law_inner) 7) : Cal P w K mg base (j + 1) "_law_is_body" sp := by
  obtain ⟨fd, F⟩ := T.d_law_is_body
  refine cal_mk F T.f_law_is_body sc_law_is_body (F.bindsN fun _ _ _ _ _ _ us hl => match us, hl with | [_], _ => rfl) pure_.len fun cdv A outer s H vs Q E hr h => ?_
  refine ⟨t_law_is_body K w s_law_inner, PSs.nox ?_, pure_.run vs H Q E h⟩
  exact (pss_cons (ps_set (i := 1) sc_law_is_body.nd rfl (Or.inl rfl) (pe_lstN (pa_cons (pe_tupN (pa_cons (pv 0) (pa_cons pe_int pa_nil))) pa_nil)))
  (pss_cons (ps_set (i := 2) sc_law_is_body.nd rfl (Or.inl rfl) pe_int)
  (pss_cons (ps_while PassesOwn.never (pt_cmpR op_lt (pv 2) (pe_callB call_lenG (by rfl) T.n_len (by decide +kernel) (pa_cons (pv 1) pa_nil)) (nomark _)) (pss_cons (ps_asg (pe_ixG (hu_of hr) (pv 1) (pv 2) (fun _ _ => rfl)) (pg_tup rfl (pgs_cons (pg_name (i := 3) sc_law_is_body.nd rfl (by first | exact Or.inl rfl | exact Or.inr rfl)) (pgs_cons (pg_name (i := 4) sc_law_is_body.nd rfl (by first | exact Or.inl rfl | exact Or.inr rfl)) pgs_nil))))
  (pss_cons (ps_set (i := 5) sc_law_is_body.nd rfl (Or.inl rfl) (pe_cal c_law_inner hr rfl (pa_cons (pv 3) pa_nil)))
  (pss_cons (ps_if (PW.pt (pw_or (pt_cmpR op_isG (pv 5) pe_non (nomark _)) (pw_or (pt_cmpR op_gt (pv 4) pe_int (nomark _)) (pw_or1 (pt_cmpR op_gt (pv 2) pe_int (nomark _)))))) (pss_one (ps_ret pe_bl)) pss_nil)
  (pss_cons (ps_expr (pe_bm PySem.F.plainAttrs_list PySem.F.slot_list_extend PySem.F.type_list_extend mt_extendG (pv 1) (pa_cons (pe_lc (own := [("_law_one", 6)]) (g := (gName 6)) (tt := tYes) rfl sc_law_is_body.nd (pi_seq (pv 5)) (blkOk_by (by kernel_rfl)) (fun _ _ _ _ _ => (pg_name (i := 6) sc_law_is_body.nd rfl (by first | exact Or.inl rfl | exact Or.inr rfl))) (fun _ _ _ _ _ => pts_nil) (fun _ _ _ _ _ => (pe_tupN (pa_cons (pv 6) (pa_cons (pe_op op_addG (pv 4) pe_int) pa_nil))))) pa_nil)))
  (pss_one (ps_set (i := 2) sc_law_is_body.nd rfl (Or.inl rfl) (pe_op op_addG (pv 2) pe_int))))))))
  (pss_one (ps_ret pe_bl)))))
abbrev st_law_is_function : Stmt := topS 51
theorem sc_law_is_function : FnScope ["_law_thing", "_law_name"] ["_law_thing"] (defScope st_law_is_function) := ⟨rfl, rfl, rfl, by decide +kernel, rfl, by decide +kernel, by decide +kernel⟩
theorem mk_law_is_function {P : Program} {w : World} {K : PySem.W.Frag} {mg : Str → Option Value} {base : Heap} (T : TX w K mg) {j : Nat} {sp : Sp} {s_law_is_name s_law_is_body : Sp} (c_law_is_name : Cal P w K mg base j "_law_is_name" s_law_is_name) (c_law_is_body : Cal P w K mg base j "_law_is_body" s_law_is_body)
    (pure_ : PureOk 1 sp (t_law_is_function K w s_law_is_name s_law_is_body) 2) : Cal P w K mg base (j + 1) "_law_is_function" sp := by
  obtain ⟨fd, F⟩ := T.d_law_is_function
  refine cal_mk F T.f_law_is_function sc_law_is_function (F.bindsN fun _ _ _ _ _ _ us hl => match us, hl with | [_], _ => rfl) pure_.len fun cdv A outer s H vs Q E hr h => ?_
  refine ⟨t_law_is_function K w s_law_is_name s_law_is_body, PSs.nox ?_, pure_.run vs H Q E h⟩
  exact (pss_cons (ps_if (PW.pt (pw_or (pt_not (pt_tru (pe_callB call_isiG (by rfl) T.n_isinstance (by decide +kernel) (pa_cons (pv 0) (pa_cons (pe_bltn (v := .ty "tuple") rfl T.n_tuple (by decide +kernel) rfl) pa_nil))) (by intro _; rfl))) (pw_or (pt_cmpR (op_neG (hu2_of hr)) (pe_callB call_lenG (by rfl) T.n_len (by decide +kernel) (pa_cons (pv 0) pa_nil)) pe_int (nomark _)) (pw_or (pt_not (pt_tru (pe_cal c_law_is_name hr rfl (pa_cons (pe_ixG (hu_of hr) (pv 0) pe_int (fun _ _ => rfl)) pa_nil)) (by intro _; rfl))) (pw_or1 (pt_not (pt_tru (pe_cal c_law_is_body hr rfl (pa_cons (pe_ixG (hu_of hr) (pv 0) pe_int (fun _ _ => rfl)) pa_nil)) (by intro _; rfl)))))))) (pss_one (ps_ret pe_bl)) pss_nil)
  (pss_cons (ps_if (PW.pt (pw_or (pt_not (pt_tru (pe_callB call_isiG (by rfl) T.n_isinstance (by decide +kernel) (pa_cons (pe_ixG (hu_of hr) (pv 0) pe_int (fun _ _ => rfl)) (pa_cons (pe_bltn (v := .ty "tuple") rfl T.n_tuple (by decide +kernel) rfl) pa_nil))) (by intro _; rfl))) (pw_or1 (pt_cmpR op_gt (pe_callB call_lenG (by rfl) T.n_len (by decide +kernel) (pa_cons (pe_ixG (hu_of hr) (pv 0) pe_int (fun _ _ => rfl)) pa_nil)) pe_int (nomark _))))) (pss_one (ps_ret pe_bl)) pss_nil)
  (pss_one (ps_ret (pe_cmpR (op_eqG (hu2_of hr)) (pe_lc (own := [("_law_name", 1)]) (g := (gName 1)) (tt := (tNot (tTru K (tCall s_law_is_name [] E0 (tCons (tVar 1) tNil))))) rfl sc_law_is_function.nd (pi_seq (pe_ixG (hu_of hr) (pv 0) pe_int (fun _ _ => rfl))) (blkOk_by (by kernel_rfl)) (fun _ _ _ _ _ => (pg_name (i := 1) sc_law_is_function.nd rfl (by first | exact Or.inl rfl | exact Or.inr rfl))) (fun _ _ _ _ _ => (pts_one (pt_not (pt_tru (pe_cal c_law_is_name hr rfl (pa_cons (pv 1) pa_nil)) (by intro _; rfl))))) (fun _ _ _ _ _ => (pv 1))) (pe_lstN pa_nil) (nomark _))))))
abbrev st_law_lets : Stmt := topS 52
theorem sc_law_lets : FnScope ["_law_part", "_law_found", "_law_row", "_law_one"] ["_law_part"] (defScope st_law_lets) := ⟨rfl, rfl, rfl, by decide +kernel, rfl, by decide +kernel, by decide +kernel⟩
theorem mk_law_lets {P : Program} {w : World} {K : PySem.W.Frag} {mg : Str → Option Value} {base : Heap} (T : TX w K mg) {j : Nat} {sp : Sp} {s_law_inner s_law_lets : Sp} (c_law_inner : Cal P w K mg base j "_law_inner" s_law_inner) (c_law_lets : Cal P w K mg base j "_law_lets" s_law_lets)
    (pure_ : PureOk 1 sp (t_law_lets K w s_law_inner s_law_lets) 4) : Cal P w K mg base (j + 1) "_law_lets" sp := by
  obtain ⟨fd, F⟩ := T.d_law_lets
  refine cal_mk F T.f_law_lets sc_law_lets (F.bindsN fun _ _ _ _ _ _ us hl => match us, hl with | [_], _ => rfl) pure_.len fun cdv A outer s H vs Q E hr h => ?_
  refine ⟨t_law_lets K w s_law_inner s_law_lets, PSs.nox ?_, pure_.run vs H Q E h⟩
  exact (pss_cons (ps_set (i := 1) sc_law_lets.nd rfl (Or.inl rfl) (pe_lstN pa_nil))
  (pss_cons (ps_if (pt_cmpR (op_eqG (hu2_of hr)) (pe_ixG (hu_of hr) (pv 0) pe_int (fun _ _ => rfl)) pe_str (nomark _)) (pss_one (ps_setLc (i := 1) (own := [("_law_row", 2)]) (g := (gName 2)) (tt := tYes) rfl sc_law_lets.nd rfl rfl (sw_true rfl rfl rfl (by decide +kernel)) (pi_seq (pe_ixG (hu_of hr) (pv 0) pe_int (fun _ _ => rfl))) (blkOk_by (by kernel_rfl)) (fun _ _ _ _ _ => (pg_name (i := 2) sc_law_lets.nd rfl (by first | exact Or.inl rfl | exact Or.inr rfl))) (fun _ _ _ _ _ => pts_nil) (fun _ _ _ _ _ => (pe_ixG (hu_of hr) (pv 2) pe_int (fun _ _ => rfl))))) pss_nil)
  (pss_cons (ps_for PassesOwn.never rfl (pi_seq (pe_cal c_law_inner hr rfl (pa_cons (pv 0) pa_nil))) (pg_name (i := 3) sc_law_lets.nd rfl (by first | exact Or.inl rfl | exact Or.inr rfl)) (pss_one (ps_set (i := 1) sc_law_lets.nd rfl (Or.inl rfl) (pe_op op_addG (pv 1) (pe_cal c_law_lets hr rfl (pa_cons (pv 3) pa_nil))))))
  (pss_one (ps_ret (pv 1))))))
abbrev st_law_strange : Stmt := topS 53
theorem sc_law_strange : FnScope ["_law_part", "_law_known", "_law_functions", "_law_row", "_law_one", "_law_found"] ["_law_part", "_law_known", "_law_functions"] (defScope st_law_strange) := ⟨rfl, rfl, rfl, by decide +kernel, rfl, by decide +kernel, by decide +kernel⟩
theorem mk_law_strange {P : Program} {w : World} {K : PySem.W.Frag} {mg : Str → Option Value} {base : Heap} (T : TX w K mg) {j : Nat} {sp : Sp} {s_law_inner s_law_strange : Sp} (c_law_inner : Cal P w K mg base j "_law_inner" s_law_inner) (c_law_strange : Cal P w K mg base j "_law_strange" s_law_strange)
    (pure_ : PureOk 3 sp (t_law_strange K w s_law_inner s_law_strange) 6) : Cal P w K mg base (j + 1) "_law_strange" sp := by
  obtain ⟨fd, F⟩ := T.d_law_strange
  refine cal_mk F T.f_law_strange sc_law_strange (F.bindsN fun _ _ _ _ _ _ us hl => match us, hl with | [_, _, _], _ => rfl) pure_.len fun cdv A outer s H vs Q E hr h => ?_
  refine ⟨t_law_strange K w s_law_inner s_law_strange, PSs.nox ?_, pure_.run vs H Q E h⟩
  exact (pss_cons (ps_if (PW.pt (pw_or (PW.pt (pw_and (pt_cmpR (op_eqG (hu2_of hr)) (pe_ixG (hu_of hr) (pv 0) pe_int (fun _ _ => rfl)) pe_str (nomark _)) (pw_and1 (pt_cmpR (op_notInG (hu_of hr)) (pe_ixG (hu_of hr) (pv 0) pe_int (fun _ _ => rfl)) (pv 1) (by rfl))))) (pw_or1 (PW.pt (pw_and (pt_cmpR (op_eqG (hu2_of hr)) (pe_ixG (hu_of hr) (pv 0) pe_int (fun _ _ => rfl)) pe_str (nomark _)) (pw_and1 (pt_cmpR (op_notInG (hu_of hr)) (pe_ixG (hu_of hr) (pv 0) pe_int (fun _ _ => rfl)) (pv 2) (by rfl)))))))) (pss_one (ps_ret (pe_ixG (hu_of hr) (pv 0) pe_int (fun _ _ => rfl)))) pss_nil)
  (pss_cons (ps_if (pt_cmpR (op_eqG (hu2_of hr)) (pe_ixG (hu_of hr) (pv 0) pe_int (fun _ _ => rfl)) pe_str (nomark _)) (pss_one (ps_set (i := 1) sc_law_strange.nd rfl (Or.inl rfl) (pe_op op_addG (pv 1) (pe_lc (own := [("_law_row", 3)]) (g := (gName 3)) (tt := tYes) rfl sc_law_strange.nd (pi_seq (pe_ixG (hu_of hr) (pv 0) pe_int (fun _ _ => rfl))) (blkOk_by (by kernel_rfl)) (fun _ _ _ _ _ => (pg_name (i := 3) sc_law_strange.nd rfl (by first | exact Or.inl rfl | exact Or.inr rfl))) (fun _ _ _ _ _ => pts_nil) (fun _ _ _ _ _ => (pe_ixG (hu_of hr) (pv 3) pe_int (fun _ _ => rfl))))))) pss_nil)
  (pss_cons (ps_for PassesOwn.never rfl (pi_seq (pe_cal c_law_inner hr rfl (pa_cons (pv 0) pa_nil))) (pg_name (i := 4) sc_law_strange.nd rfl (by first | exact Or.inl rfl | exact Or.inr rfl)) (pss_cons (ps_set (i := 5) sc_law_strange.nd rfl (Or.inl rfl) (pe_cal c_law_strange hr rfl (pa_cons (pv 4) (pa_cons (pv 1) (pa_cons (pv 2) pa_nil)))))
  (pss_one (ps_if (pt_cmpR (op_neG (hu2_of hr)) (pv 5) pe_str (nomark _)) (pss_one (ps_ret (pv 5))) pss_nil))))
  (pss_one (ps_ret pe_str)))))
abbrev st_law_due : Stmt := topS 54
theorem sc_law_due : FnScope ["_law_thing", "_law_one", "_law_names_here", "_law_at", "_law_things", "_law_body", "_law_known", "_law_strange_here"] ["_law_thing"] (defScope st_law_due) := ⟨rfl, rfl, rfl, by decide +kernel, rfl, by decide +kernel, by decide +kernel⟩
theorem mk_law_due {P : Program} {w : World} {K : PySem.W.Frag} {mg : Str → Option Value} {base : Heap} (T : TX w K mg) {j : Nat} {sp : Sp} {s_law_is_function s_law_is_body s_law_lets s_law_strange : Sp} (c_law_is_function : Cal P w K mg base j "_law_is_function" s_law_is_function) (c_law_is_body : Cal P w K mg base j "_law_is_body" s_law_is_body) (c_law_lets : Cal P w K mg base j "_law_lets" s_law_lets) (c_law_strange : Cal P w K mg base j "_law_strange" s_law_strange)
    (pure_ : PureOk 1 sp (t_law_due K w s_law_is_function s_law_is_body s_law_lets s_law_strange) 8) : Cal P w K mg base (j + 1) "_law_due" sp := by
  obtain ⟨fd, F⟩ := T.d_law_due
  refine cal_mk F T.f_law_due sc_law_due (F.bindsN fun _ _ _ _ _ _ us hl => match us, hl with | [_], _ => rfl) pure_.len fun cdv A outer s H vs Q E hr h => ?_
  refine ⟨t_law_due K w s_law_is_function s_law_is_body s_law_lets s_law_strange, PSs.nox ?_, pure_.run vs H Q E h⟩
  exact (pss_cons (ps_if (PW.pt (pw_or (pt_not (pt_tru (pe_callB call_isiG (by rfl) T.n_isinstance (by decide +kernel) (pa_cons (pv 0) (pa_cons (pe_bltn (v := .ty "tuple") rfl T.n_tuple (by decide +kernel) rfl) pa_nil))) (by intro _; rfl))) (pw_or (pt_cmpR (op_neG (hu2_of hr)) (pe_callB call_lenG (by rfl) T.n_len (by decide +kernel) (pa_cons (pv 0) pa_nil)) pe_int (nomark _)) (pw_or (pt_not (pt_tru (pe_callB call_isiG (by rfl) T.n_isinstance (by decide +kernel) (pa_cons (pe_ixG (hu_of hr) (pv 0) pe_int (fun _ _ => rfl)) (pa_cons (pe_bltn (v := .ty "tuple") rfl T.n_tuple (by decide +kernel) rfl) pa_nil))) (by intro _; rfl))) (pw_or1 (pt_cmpR op_gt (pe_callB call_lenG (by rfl) T.n_len (by decide +kernel) (pa_cons (pe_ixG (hu_of hr) (pv 0) pe_int (fun _ _ => rfl)) pa_nil)) pe_int (nomark _))))))) (pss_one (ps_ret (pe_tupN (pa_cons pe_str (pa_cons pe_str pa_nil))))) pss_nil)
  (pss_cons (ps_if (PW.pt (pw_or (pt_cmpR (op_neG (hu2_of hr)) (pe_lc (own := [("_law_one", 1)]) (g := (gName 1)) (tt := (tNot (tTru K (tCall s_law_is_function [] E0 (tCons (tVar 1) tNil))))) rfl sc_law_due.nd (pi_seq (pe_ixG (hu_of hr) (pv 0) pe_int (fun _ _ => rfl))) (blkOk_by (by kernel_rfl)) (fun _ _ _ _ _ => (pg_name (i := 1) sc_law_due.nd rfl (by first | exact Or.inl rfl | exact Or.inr rfl))) (fun _ _ _ _ _ => (pts_one (pt_not (pt_tru (pe_cal c_law_is_function hr rfl (pa_cons (pv 1) pa_nil)) (by intro _; rfl))))) (fun _ _ _ _ _ => (pv 1))) (pe_lstN pa_nil) (nomark _)) (pw_or1 (pt_not (pt_tru (pe_cal c_law_is_body hr rfl (pa_cons (pe_ixG (hu_of hr) (pv 0) pe_int (fun _ _ => rfl)) pa_nil)) (by intro _; rfl)))))) (pss_one (ps_ret (pe_tupN (pa_cons pe_str (pa_cons pe_str pa_nil))))) pss_nil)
  (pss_cons (ps_setLc (i := 2) (own := [("_law_one", 1)]) (g := (gName 1)) (tt := tYes) rfl sc_law_due.nd rfl rfl (sw_true rfl rfl rfl (by decide +kernel)) (pi_seq (pe_ixG (hu_of hr) (pv 0) pe_int (fun _ _ => rfl))) (blkOk_by (by kernel_rfl)) (fun _ _ _ _ _ => (pg_name (i := 1) sc_law_due.nd rfl (by first | exact Or.inl rfl | exact Or.inr rfl))) (fun _ _ _ _ _ => pts_nil) (fun _ _ _ _ _ => (pe_ixG (hu_of hr) (pv 1) pe_int (fun _ _ => rfl))))
  (pss_cons (ps_for PassesOwn.never rfl (pi_range1 (by rfl) T.n_range (pa_cons (pe_callB call_lenG (by rfl) T.n_len (by decide +kernel) (pa_cons (pv 2) pa_nil)) pa_nil)) (pg_name (i := 3) sc_law_due.nd rfl (by first | exact Or.inl rfl | exact Or.inr rfl)) (pss_one (ps_if (pt_cmpR (op_inG (hu_of hr)) (pe_ixG (hu_of hr) (pv 2) (pv 3) (fun _ _ => rfl)) (pe_slice sl_any (pv 2) po_none (po_some (pv 3))) (by rfl)) (pss_one (ps_ret (pe_tupN (pa_cons pe_str (pa_cons (pe_ixG (hu_of hr) (pv 2) (pv 3) (fun _ _ => rfl)) pa_nil))))) pss_nil)))
  (pss_cons (ps_for PassesOwn.never rfl (pi_seq (pe_op op_addG (pe_lc (own := [("_law_one", 1)]) (g := (gName 1)) (tt := tYes) rfl sc_law_due.nd (pi_seq (pe_ixG (hu_of hr) (pv 0) pe_int (fun _ _ => rfl))) (blkOk_by (by kernel_rfl)) (fun _ _ _ _ _ => (pg_name (i := 1) sc_law_due.nd rfl (by first | exact Or.inl rfl | exact Or.inr rfl))) (fun _ _ _ _ _ => pts_nil) (fun _ _ _ _ _ => (pe_tupN (pa_cons (pe_ixG (hu_of hr) (pv 1) pe_int (fun _ _ => rfl)) (pa_cons (pe_ixG (hu_of hr) (pv 1) pe_int (fun _ _ => rfl)) pa_nil))))) (pe_lstN (pa_cons (pe_tupN (pa_cons (pe_tupN pa_nil) (pa_cons (pe_ixG (hu_of hr) (pv 0) pe_int (fun _ _ => rfl)) pa_nil))) pa_nil)))) (pg_tup rfl (pgs_cons (pg_name (i := 4) sc_law_due.nd rfl (by first | exact Or.inl rfl | exact Or.inr rfl)) (pgs_cons (pg_name (i := 5) sc_law_due.nd rfl (by first | exact Or.inl rfl | exact Or.inr rfl)) pgs_nil))) (pss_cons (ps_set (i := 6) sc_law_due.nd rfl (Or.inl rfl) (pe_op op_addG (pe_callTy (call_listG rfl) (by rfl) T.n_list (by decide +kernel) (pa_cons (pv 4) pa_nil)) (pe_cal c_law_lets hr rfl (pa_cons (pv 5) pa_nil))))
  (pss_cons (ps_for PassesOwn.never rfl (pi_range1 (by rfl) T.n_range (pa_cons (pe_callB call_lenG (by rfl) T.n_len (by decide +kernel) (pa_cons (pv 6) pa_nil)) pa_nil)) (pg_name (i := 3) sc_law_due.nd rfl (by first | exact Or.inl rfl | exact Or.inr rfl)) (pss_one (ps_if (pt_cmpR (op_inG (hu_of hr)) (pe_ixG (hu_of hr) (pv 6) (pv 3) (fun _ _ => rfl)) (pe_slice sl_any (pv 6) po_none (po_some (pv 3))) (by rfl)) (pss_one (ps_ret (pe_tupN (pa_cons pe_str (pa_cons (pe_ixG (hu_of hr) (pv 6) (pv 3) (fun _ _ => rfl)) pa_nil))))) pss_nil)))
  (pss_cons (ps_set (i := 7) sc_law_due.nd rfl (Or.inl rfl) (pe_cal c_law_strange hr rfl (pa_cons (pv 5) (pa_cons (pe_callTy (call_listG rfl) (by rfl) T.n_list (by decide +kernel) (pa_cons (pv 4) pa_nil)) (pa_cons (pv 2) pa_nil)))))
  (pss_one (ps_if (pt_cmpR (op_neG (hu2_of hr)) (pv 7) pe_str (nomark _)) (pss_one (ps_ret (pe_tupN (pa_cons pe_str (pa_cons (pv 7) pa_nil))))) pss_nil))))))
  (pss_one (ps_ret (pe_tupN (pa_cons pe_str (pa_cons pe_str pa_nil))))))))))
abbrev st_law_figures : Stmt := topS 55
theorem sc_law_figures : FnScope ["_law_word", "_law_figures_here", "_law_sign"] ["_law_word"] (defScope st_law_figures) := ⟨rfl, rfl, rfl, by decide +kernel, rfl, by decide +kernel, by decide +kernel⟩
theorem mk_law_figures {P : Program} {w : World} {K : PySem.W.Frag} {mg : Str → Option Value} {base : Heap} (T : TX w K mg) {j : Nat} {sp : Sp}
    (pure_ : PureOk 1 sp (t_law_figures K w ) 3) : Cal P w K mg base (j + 1) "_law_figures" sp := by
  obtain ⟨fd, F⟩ := T.d_law_figures
  refine cal_mk F T.f_law_figures sc_law_figures (F.bindsN fun _ _ _ _ _ _ us hl => match us, hl with | [_], _ => rfl) pure_.len fun cdv A outer s H vs Q E hr h => ?_
  refine ⟨t_law_figures K w , PSs.nox ?_, pure_.run vs H Q E h⟩
  exact (pss_cons (ps_set (i := 1) sc_law_figures.nd rfl (Or.inl rfl) (pe_ifExp (pt_cmpR (op_eqG (hu2_of hr)) (pe_slice sl_any (pv 0) po_none (po_some pe_int)) pe_str (nomark _)) (pe_slice sl_any (pv 0) (po_some pe_int) po_none) (pv 0)))
  (pss_cons (ps_if (PW.pt (pw_or (pt_cmpR op_lt (pe_callB call_lenG (by rfl) T.n_len (by decide +kernel) (pa_cons (pv 1) pa_nil)) pe_int (nomark _)) (pw_or (pt_cmpR op_gt (pe_callB call_lenG (by rfl) T.n_len (by decide +kernel) (pa_cons (pv 1) pa_nil)) pe_int (nomark _)) (pw_or1 (pt_cmpR (op_neG (hu2_of hr)) (pe_lc (own := [("_law_sign", 2)]) (g := (gName 2)) (tt := (tTest (tOp (rInG K w true) (tVar 2) (tC (.str "0123456789"))))) rfl sc_law_figures.nd (pi_seq (pv 1)) (blkOk_by (by kernel_rfl)) (fun _ _ _ _ _ => (pg_name (i := 2) sc_law_figures.nd rfl (by first | exact Or.inl rfl | exact Or.inr rfl))) (fun _ _ _ _ _ => (pts_one (pt_cmpR (op_notInG (hu_of hr)) (pv 2) pe_str (by rfl)))) (fun _ _ _ _ _ => (pv 2))) (pe_lstN pa_nil) (nomark _)))))) (pss_one (ps_ret pe_bl)) pss_nil)
  (pss_one (ps_ret (pe_orT (pe_cmpR (op_eqG (hu2_of hr)) (pv 0) pe_str (nomark _)) (pe_one (pe_cmpR (op_neG (hu2_of hr)) (pe_ixG (hu_of hr) (pv 1) pe_int (fun _ _ => rfl)) pe_str (nomark _))))))))
abbrev st_law_marked : Stmt := topS 56
theorem sc_law_marked : FnScope ["_law_word", "_law_mark"] ["_law_word", "_law_mark"] (defScope st_law_marked) := ⟨rfl, rfl, rfl, by decide +kernel, rfl, by decide +kernel, by decide +kernel⟩
theorem mk_law_marked {P : Program} {w : World} {K : PySem.W.Frag} {mg : Str → Option Value} {base : Heap} (T : TX w K mg) {j : Nat} {sp : Sp} {s_law_is_name : Sp} (c_law_is_name : Cal P w K mg base j "_law_is_name" s_law_is_name)
    (pure_ : PureOk 2 sp (t_law_marked K w s_law_is_name) 2) : Cal P w K mg base (j + 1) "_law_marked" sp := by
  obtain ⟨fd, F⟩ := T.d_law_marked
  refine cal_mk F T.f_law_marked sc_law_marked (F.bindsN fun _ _ _ _ _ _ us hl => match us, hl with | [_, _], _ => rfl) pure_.len fun cdv A outer s H vs Q E hr h => ?_
  refine ⟨t_law_marked K w s_law_is_name, PSs.nox ?_, pure_.run vs H Q E h⟩
  exact (pss_one (ps_ret (pe_andT (pe_cmpR (op_eqG (hu2_of hr)) (pe_slice sl_any (pv 0) po_none (po_some pe_int)) (pv 1) (nomark _)) (pe_one (pe_cal c_law_is_name hr rfl (pa_cons (pe_slice sl_any (pv 0) (po_some pe_int) po_none) pa_nil))))))
abbrev st_law_part_wrong : Stmt := topS 57
theorem sc_law_part_wrong : FnScope ["_law_words", "_law_at", "_law_counts", "_law_due_here", "_law_many", "_law_kind", "_law_deep", "_law_word", "_law_good"] ["_law_words", "_law_at"] (defScope st_law_part_wrong) := ⟨rfl, rfl, rfl, by decide +kernel, rfl, by decide +kernel, by decide +kernel⟩
theorem mk_law_part_wrong {P : Program} {w : World} {K : PySem.W.Frag} {mg : Str → Option Value} {base : Heap} (T : TX w K mg) {j : Nat} {sp : Sp} {s_law_marked s_law_figures : Sp} (c_law_marked : Cal P w K mg base j "_law_marked" s_law_marked) (c_law_figures : Cal P w K mg base j "_law_figures" s_law_figures)
    (pure_ : PureOk 2 sp (t_law_part_wrong K w s_law_marked s_law_figures) 9) : Cal P w K mg base (j + 1) "_law_part_wrong" sp := by
  obtain ⟨fd, F⟩ := T.d_law_part_wrong
  refine cal_mk F T.f_law_part_wrong sc_law_part_wrong (F.bindsN fun _ _ _ _ _ _ us hl => match us, hl with | [_, _], _ => rfl) pure_.len fun cdv A outer s H vs Q E hr h => ?_
  refine ⟨t_law_part_wrong K w s_law_marked s_law_figures, PSs.nox ?_, pure_.run vs H Q E h⟩
  exact (pss_cons (ps_set (i := 2) sc_law_part_wrong.nd rfl (Or.inl rfl) (pe_dispN (pps_cons (pe_cl pe_str) (pe_cl pe_int) (pps_cons (pe_cl pe_str) (pe_cl pe_int) (pps_cons (pe_cl pe_str) (pe_cl pe_int) (pps_cons (pe_cl pe_str) (pe_cl pe_int) (pps_cons (pe_cl pe_str) (pe_cl pe_int) (pps_cons (pe_cl pe_str) (pe_cl pe_int) (pps_cons (pe_cl pe_str) (pe_cl pe_int) (pps_cons (pe_cl pe_str) (pe_cl pe_int) (pps_cons (pe_cl pe_str) (pe_cl pe_int) pps_nil))))))))) (by rfl) (by rfl) (fun z => by cases z) (by decide)))
  (pss_cons (ps_set (i := 3) sc_law_part_wrong.nd rfl (Or.inl rfl) (pe_lstN (pa_cons (pe_tupN (pa_cons pe_str (pa_cons pe_int pa_nil))) pa_nil)))
  (pss_cons (ps_set (i := 4) sc_law_part_wrong.nd rfl (Or.inl rfl) pe_int)
  (pss_cons (ps_while PassesOwn.never (pt_cmpR (op_neG (hu2_of hr)) (pv 3) (pe_lstN pa_nil) (nomark _)) (pss_cons (ps_asg (pe_bm0 PySem.F.plainAttrs_list PySem.F.slot_list_pop PySem.F.type_list_pop mt_popG (pv 3)) (pg_tup rfl (pgs_cons (pg_name (i := 5) sc_law_part_wrong.nd rfl (by first | exact Or.inl rfl | exact Or.inr rfl)) (pgs_cons (pg_name (i := 6) sc_law_part_wrong.nd rfl (by first | exact Or.inl rfl | exact Or.inr rfl)) pgs_nil))))
  (pss_cons (ps_set (i := 7) sc_law_part_wrong.nd rfl (Or.inl rfl) (pe_ixG (hu_of hr) (pe_op op_addG (pe_slice sl_any (pv 0) (po_some (pv 1)) po_none) (pe_lstN (pa_cons pe_str pa_nil))) pe_int (fun _ _ => rfl)))
  (pss_cons (ps_set (i := 8) sc_law_part_wrong.nd rfl (Or.inl rfl) (pe_ifExp (pt_cmpR (op_eqG (hu2_of hr)) (pv 5) pe_str (nomark _)) (pe_cal c_law_marked hr rfl (pa_cons (pv 7) (pa_cons pe_str pa_nil))) (pe_cmpR (op_inG (hu_of hr)) (pv 7) (pe_tupN (pa_cons pe_str (pa_cons pe_str (pa_cons pe_str (pa_cons pe_str pa_nil))))) (by rfl))))
  (pss_cons (ps_if (pt_cmpR (op_eqG (hu2_of hr)) (pv 5) pe_str (nomark _)) (pss_cons (ps_set (i := 8) sc_law_part_wrong.nd rfl (Or.inl rfl) (pe_orT (pe_cal c_law_figures hr rfl (pa_cons (pv 7) pa_nil)) (pe_orT (pe_cal c_law_marked hr rfl (pa_cons (pv 7) (pa_cons pe_str pa_nil))) (pe_orT (pe_cal c_law_marked hr rfl (pa_cons (pv 7) (pa_cons pe_str pa_nil))) (pe_one (pe_cmpR (op_inG (hu_of hr)) (pv 7) (pv 2) (by rfl)))))))
  (pss_cons (ps_set (i := 8) sc_law_part_wrong.nd rfl (Or.inl rfl) (pe_andT (pe_orT (pv 8) (pe_one (pe_cmpR (op_eqG (hu2_of hr)) (pv 7) pe_str (nomark _)))) (pe_andT (pe_cmpR op_le (pv 6) pe_int (nomark _)) (pe_one (pe_cmpR op_lt (pv 4) pe_int (nomark _))))))
  (pss_one (ps_set (i := 4) sc_law_part_wrong.nd rfl (Or.inl rfl) (pe_op op_addG (pv 4) pe_int))))) pss_nil)
  (pss_cons (ps_if (PW.pt (pw_or (pt_not (pt_tru (pv 8) (by intro _; rfl))) (pw_or1 (pt_cmpR (op_eqG (hu2_of hr)) (pv 1) (pe_callB call_lenG (by rfl) T.n_len (by decide +kernel) (pa_cons (pv 0) pa_nil)) (nomark _))))) (pss_one (ps_ret (pv 1))) pss_nil)
  (pss_cons (ps_set (i := 1) sc_law_part_wrong.nd rfl (Or.inl rfl) (pe_op op_addG (pv 1) pe_int))
  (pss_cons (ps_if (pt_cmpR (op_eqG (hu2_of hr)) (pv 5) pe_str (nomark _)) (pss_cons (ps_set (i := 3) sc_law_part_wrong.nd rfl (Or.inl rfl) (pe_op op_addG (pv 3) (pe_op op_repG (pe_lstN (pa_cons (pe_tupN (pa_cons pe_str (pa_cons (pe_op op_addG (pv 6) pe_int) pa_nil))) pa_nil)) (pe_dget2 (hu_of hr) (pv 2) (pv 7) pe_int ⟨rfl, rfl, rfl, rfl⟩))))
  (pss_one (ps_if (pt_cmpR (op_eqG (hu2_of hr)) (pv 7) pe_str (nomark _)) (pss_one (ps_expr (pe_bm PySem.F.plainAttrs_list PySem.F.slot_list_append PySem.F.type_list_append mt_appendG (pv 3) (pa_cons (pe_tupN (pa_cons pe_str (pa_cons (pe_op op_addG (pv 6) pe_int) pa_nil))) pa_nil)))) pss_nil))) pss_nil)
  (pss_one (ps_if (pt_cmpR (op_eqG (hu2_of hr)) (pv 5) pe_str (nomark _)) (pss_one (ps_set (i := 3) sc_law_part_wrong.nd rfl (Or.inl rfl) (pe_op op_addG (pe_op op_addG (pv 3) (pe_lstN (pa_cons (pe_tupN (pa_cons pe_str (pa_cons (pv 6) pa_nil))) pa_nil))) (pe_op op_repG (pe_lstN (pa_cons (pe_tupN (pa_cons pe_str (pa_cons (pv 6) pa_nil))) (pa_cons (pe_tupN (pa_cons pe_str (pa_cons (pv 6) pa_nil))) pa_nil))) (pe_callTy call_intA (by rfl) T.n_int (by decide +kernel) (pa_cons (pv 7) pa_nil)))))) pss_nil))))))))))
  (pss_one (ps_ret (pe_ifExp (pt_cmpR (op_eqG (hu2_of hr)) (pv 1) (pe_callB call_lenG (by rfl) T.n_len (by decide +kernel) (pa_cons (pv 0) pa_nil)) (nomark _)) pe_non (pv 1))))))))
abbrev st_law_row_wrong : Stmt := topS 58
theorem sc_law_row_wrong : FnScope ["_law_words", "_law_at"] ["_law_words"] (defScope st_law_row_wrong) := ⟨rfl, rfl, rfl, by decide +kernel, rfl, by decide +kernel, by decide +kernel⟩
theorem mk_law_row_wrong {P : Program} {w : World} {K : PySem.W.Frag} {mg : Str → Option Value} {base : Heap} (T : TX w K mg) {j : Nat} {sp : Sp} {s_law_is_name s_law_marked s_law_part_wrong : Sp} (c_law_is_name : Cal P w K mg base j "_law_is_name" s_law_is_name) (c_law_marked : Cal P w K mg base j "_law_marked" s_law_marked) (c_law_part_wrong : Cal P w K mg base j "_law_part_wrong" s_law_part_wrong)
    (pure_ : PureOk 1 sp (t_law_row_wrong K w s_law_is_name s_law_marked s_law_part_wrong) 2) : Cal P w K mg base (j + 1) "_law_row_wrong" sp := by
  obtain ⟨fd, F⟩ := T.d_law_row_wrong
  refine cal_mk F T.f_law_row_wrong sc_law_row_wrong (F.bindsN fun _ _ _ _ _ _ us hl => match us, hl with | [_], _ => rfl) pure_.len fun cdv A outer s H vs Q E hr h => ?_
  refine ⟨t_law_row_wrong K w s_law_is_name s_law_marked s_law_part_wrong, PSs.nox ?_, pure_.run vs H Q E h⟩
  exact (pss_cons (ps_if (pt_not (pt_tru (pe_cal c_law_is_name hr rfl (pa_cons (pe_ixG (hu_of hr) (pv 0) pe_int (fun _ _ => rfl)) pa_nil)) (by intro _; rfl))) (pss_one (ps_ret pe_int)) pss_nil)
  (pss_cons (ps_set (i := 1) sc_law_row_wrong.nd rfl (Or.inl rfl) pe_int)
  (pss_cons (ps_while PassesOwn.never (PW.pt (pw_and (pt_cmpR op_lt (pv 1) (pe_callB call_lenG (by rfl) T.n_len (by decide +kernel) (pa_cons (pv 0) pa_nil)) (nomark _)) (pw_and (pt_cmpR op_lt (pv 1) pe_int (nomark _)) (pw_and1 (pt_tru (pe_cal c_law_marked hr rfl (pa_cons (pe_ixG (hu_of hr) (pv 0) (pv 1) (fun _ _ => rfl)) (pa_cons pe_str pa_nil))) (by intro _; rfl)))))) (pss_one (ps_set (i := 1) sc_law_row_wrong.nd rfl (Or.inl rfl) (pe_op op_addG (pv 1) pe_int))))
  (pss_cons (ps_if (PW.pt (pw_or (pt_cmpR (op_eqG (hu2_of hr)) (pv 1) (pe_callB call_lenG (by rfl) T.n_len (by decide +kernel) (pa_cons (pv 0) pa_nil)) (nomark _)) (pw_or1 (pt_cmpR (op_neG (hu2_of hr)) (pe_ixG (hu_of hr) (pv 0) (pv 1) (fun _ _ => rfl)) pe_str (nomark _))))) (pss_one (ps_ret (pv 1))) pss_nil)
  (pss_one (ps_ret (pe_cal c_law_part_wrong hr rfl (pa_cons (pv 0) (pa_cons (pe_op op_addG (pv 1) pe_int) pa_nil)))))))))
abbrev st_law_built : Stmt := topS 59
theorem sc_law_built : FnScope ["_law_words", "_law_left", "_law_word", "_law_many", "_law_k", "_law_rows"] ["_law_words", "_law_left"] (defScope st_law_built) := ⟨rfl, rfl, rfl, by decide +kernel, rfl, by decide +kernel, by decide +kernel⟩
theorem mk_law_built {P : Program} {w : World} {K : PySem.W.Frag} {mg : Str → Option Value} {base : Heap} (T : TX w K mg) {j : Nat} {sp : Sp} {s_law_figures s_law_built : Sp} (c_law_figures : Cal P w K mg base j "_law_figures" s_law_figures) (c_law_built : Cal P w K mg base j "_law_built" s_law_built)
    (pure_ : PureOk 2 sp (t_law_built K w s_law_figures s_law_built) 6) : Cal P w K mg base (j + 1) "_law_built" sp := by
  obtain ⟨fd, F⟩ := T.d_law_built
  refine cal_mk F T.f_law_built sc_law_built (F.bindsN fun _ _ _ _ _ _ us hl => match us, hl with | [_, _], _ => rfl) pure_.len fun cdv A outer s H vs Q E hr h => ?_
  refine ⟨t_law_built K w s_law_figures s_law_built, PSs.nox ?_, pure_.run vs H Q E h⟩
  exact (pss_cons (ps_set (i := 2) sc_law_built.nd rfl (Or.inl rfl) (pe_ixG (hu_of hr) (pv 0) (pe_ixG (hu_of hr) (pv 1) pe_int (fun _ _ => rfl)) (fun _ _ => rfl)))
  (pss_cons (ps_asg (pe_op op_addG (pe_ixG (hu_of hr) (pv 1) pe_int (fun _ _ => rfl)) pe_int) (pg_sub (pv 1) pe_int (set_any (hu_of hr))))
  (pss_cons (ps_if (pt_tru (pe_cal c_law_figures hr rfl (pa_cons (pv 2) pa_nil)) (by intro _; rfl)) (pss_one (ps_ret (pe_tupN (pa_cons pe_str (pa_cons (pe_callTy call_intA (by rfl) T.n_int (by decide +kernel) (pa_cons (pv 2) pa_nil)) pa_nil))))) pss_nil)
  (pss_cons (ps_if (pt_cmpR (op_inG (hu_of hr)) (pe_ixG (hu_of hr) (pv 2) pe_int (fun _ _ => rfl)) pe_str (by rfl)) (pss_one (ps_ret (pe_tupN (pa_cons (pe_ixG (hu_of hr) (pe_lstN (pa_cons pe_str (pa_cons pe_str pa_nil))) (pe_callTy call_int1 (by rfl) T.n_int (by decide +kernel) (pa_cons (pe_cmpR (op_eqG (hu2_of hr)) (pe_ixG (hu_of hr) (pv 2) pe_int (fun _ _ => rfl)) pe_str (nomark _)) pa_nil)) (fun _ _ => rfl)) (pa_cons (pe_slice sl_any (pv 2) (po_some pe_int) po_none) pa_nil))))) pss_nil)
  (pss_cons (ps_if (pt_cmpR (op_neG (hu2_of hr)) (pv 2) pe_str (nomark _)) (pss_cons (ps_set (i := 3) sc_law_built.nd rfl (Or.inl rfl) (pe_dget2 (hu_of hr) (pe_dispN (pps_cons (pe_cl pe_str) (pe_cl pe_int) (pps_cons (pe_cl pe_str) (pe_cl pe_int) (pps_cons (pe_cl pe_str) (pe_cl pe_int) pps_nil))) (by rfl) (by rfl) (fun z => by cases z) (by decide)) (pv 2) pe_int ⟨rfl, rfl, rfl, rfl⟩))
  (pss_one (ps_ret (pe_callTy call_tupleG (by rfl) T.n_tuple (by decide +kernel) (pa_cons (pe_op op_addG (pe_lstN (pa_cons (pv 2) pa_nil)) (pe_lc (own := [("_law_k", 4)]) (g := (gName 4)) (tt := tYes) rfl sc_law_built.nd (pi_range1 (by rfl) T.n_range (pa_cons (pv 3) pa_nil)) (blkOk_by (by kernel_rfl)) (fun _ _ _ _ _ => (pg_name (i := 4) sc_law_built.nd rfl (by first | exact Or.inl rfl | exact Or.inr rfl))) (fun _ _ _ _ _ => pts_nil) (fun _ _ _ _ _ => (pe_cal c_law_built hr rfl (pa_cons (pv 0) (pa_cons (pv 1) pa_nil)))))) pa_nil))))) pss_nil)
  (pss_cons (ps_set (i := 3) sc_law_built.nd rfl (Or.inl rfl) (pe_callTy call_intA (by rfl) T.n_int (by decide +kernel) (pa_cons (pe_ixG (hu_of hr) (pv 0) (pe_ixG (hu_of hr) (pv 1) pe_int (fun _ _ => rfl)) (fun _ _ => rfl)) pa_nil)))
  (pss_cons (ps_asg (pe_op op_addG (pe_ixG (hu_of hr) (pv 1) pe_int (fun _ _ => rfl)) pe_int) (pg_sub (pv 1) pe_int (set_any (hu_of hr))))
  (pss_cons (ps_set (i := 5) sc_law_built.nd rfl (Or.inl rfl) (pe_lstN pa_nil))
  (pss_cons (ps_for PassesOwn.never rfl (pi_range1 (by rfl) T.n_range (pa_cons (pv 3) pa_nil)) (pg_name (i := 4) sc_law_built.nd rfl (by first | exact Or.inl rfl | exact Or.inr rfl)) (pss_cons (ps_asg (pe_op op_addG (pe_ixG (hu_of hr) (pv 1) pe_int (fun _ _ => rfl)) pe_int) (pg_sub (pv 1) pe_int (set_any (hu_of hr))))
  (pss_one (ps_expr (pe_bm PySem.F.plainAttrs_list PySem.F.slot_list_append PySem.F.type_list_append mt_appendG (pv 5) (pa_cons (pe_tupN (pa_cons (pe_slice sl_any (pe_ixG (hu_of hr) (pv 0) (pe_op op_sub (pe_ixG (hu_of hr) (pv 1) pe_int (fun _ _ => rfl)) pe_int) (fun _ _ => rfl)) (po_some pe_int) po_none) (pa_cons (pe_cal c_law_built hr rfl (pa_cons (pv 0) (pa_cons (pv 1) pa_nil))) pa_nil))) pa_nil))))))
  (pss_one (ps_ret (pe_tupN (pa_cons pe_str (pa_cons (pe_callTy call_tupleG (by rfl) T.n_tuple (by decide +kernel) (pa_cons (pv 5) pa_nil)) (pa_cons (pe_cal c_law_built hr rfl (pa_cons (pv 0) (pa_cons (pv 1) pa_nil))) pa_nil)))))))))))))))
abbrev st_law_read : Stmt := topS 60
theorem sc_law_read : FnScope ["_law_text_here", "_law_functions", "_law_asked", "_law_rows", "_law_line", "_law_row", "_law_words", "_law_wrong", "_law_at", "_law_word"] ["_law_text_here"] (defScope st_law_read) := ⟨rfl, rfl, rfl, by decide +kernel, rfl, by decide +kernel, by decide +kernel⟩
theorem mk_law_read {P : Program} {w : World} {K : PySem.W.Frag} {mg : Str → Option Value} {base : Heap} (T : TX w K mg) {j : Nat} {sp : Sp} {s_law_part_wrong s_law_row_wrong s_law_built : Sp} (c_law_part_wrong : Cal P w K mg base j "_law_part_wrong" s_law_part_wrong) (c_law_row_wrong : Cal P w K mg base j "_law_row_wrong" s_law_row_wrong) (c_law_built : Cal P w K mg base j "_law_built" s_law_built)
    (pure_ : PureOk 1 sp (t_law_read K w s_law_part_wrong s_law_row_wrong s_law_built) 10) : Cal P w K mg base (j + 1) "_law_read" sp := by
  obtain ⟨fd, F⟩ := T.d_law_read
  refine cal_mk F T.f_law_read sc_law_read (F.bindsN fun _ _ _ _ _ _ us hl => match us, hl with | [_], _ => rfl) pure_.len fun cdv A outer s H vs Q E hr h => ?_
  refine ⟨t_law_read K w s_law_part_wrong s_law_row_wrong s_law_built, PSs.nox ?_, pure_.run vs H Q E h⟩
  exact (pss_cons (ps_set (i := 1) sc_law_read.nd rfl (Or.inl rfl) (pe_lstN pa_nil))
  (pss_cons (ps_set (i := 2) sc_law_read.nd rfl (Or.inl rfl) pe_non)
  (pss_cons (ps_setLc (i := 3) (own := [("_law_line", 4)]) (g := (gName 4)) (tt := tYes) rfl sc_law_read.nd rfl rfl (sw_true rfl rfl rfl (by decide +kernel)) (pi_seq (pe_splitG (pv 0) pe_str)) (blkOk_by (by kernel_rfl)) (fun _ _ _ _ _ => (pg_name (i := 4) sc_law_read.nd rfl (by first | exact Or.inl rfl | exact Or.inr rfl))) (fun _ _ _ _ _ => pts_nil) (fun _ _ _ _ _ => (pe_splitG (pv 4) pe_str)))
  (pss_cons (ps_for PassesOwn.never rfl (pi_enum (by rfl) T.n_enumerate (pa_cons (pv 3) pa_nil)) (pg_tup rfl (pgs_cons (pg_name (i := 5) sc_law_read.nd rfl (by first | exact Or.inl rfl | exact Or.inr rfl)) (pgs_cons (pg_name (i := 6) sc_law_read.nd rfl (by first | exact Or.inl rfl | exact Or.inr rfl)) pgs_nil))) (pss_cons (ps_if (PW.pt (pw_or (pt_cmpR op_isNotG (pv 2) pe_non (nomark _)) (pw_or1 (PW.pt (pw_and (pt_cmpR (op_neG (hu2_of hr)) (pe_ixG (hu_of hr) (pv 6) pe_int (fun _ _ => rfl)) pe_str (nomark _)) (pw_and1 (pt_cmpR (op_eqG (hu2_of hr)) (pe_callB call_lenG (by rfl) T.n_len (by decide +kernel) (pa_cons (pv 1) pa_nil)) pe_int (nomark _)))))))) (pss_one (ps_ret (pe_tupN (pa_cons pe_str (pa_cons (pv 5) (pa_cons pe_int pa_nil)))))) pss_nil)
  (pss_cons (ps_set (i := 7) sc_law_read.nd rfl (Or.inl rfl) (pe_ifExp (pt_cmpR (op_eqG (hu2_of hr)) (pe_ixG (hu_of hr) (pv 6) pe_int (fun _ _ => rfl)) pe_str (nomark _)) (pe_cal c_law_part_wrong hr rfl (pa_cons (pv 6) (pa_cons pe_int pa_nil))) (pe_cal c_law_row_wrong hr rfl (pa_cons (pv 6) pa_nil))))
  (pss_cons (ps_if (pt_cmpR op_isNotG (pv 7) pe_non (nomark _)) (pss_one (ps_ret (pe_tupN (pa_cons pe_str (pa_cons (pv 5) (pa_cons (pv 7) pa_nil)))))) pss_nil)
  (pss_one (ps_if (pt_cmpR (op_eqG (hu2_of hr)) (pe_ixG (hu_of hr) (pv 6) pe_int (fun _ _ => rfl)) pe_str (nomark _)) (pss_one (ps_set (i := 2) sc_law_read.nd rfl (Or.inl rfl) (pe_cal c_law_built hr rfl (pa_cons (pv 6) (pa_cons (pe_lstN (pa_cons pe_int pa_nil)) pa_nil))))) (pss_cons (ps_set (i := 8) sc_law_read.nd rfl (Or.inl rfl) (pe_bm PySem.F.plainAttrs_list PySem.F.slot_list_index PySem.F.type_list_index mt_index (pv 6) (pa_cons pe_str pa_nil)))
  (pss_one (ps_expr (pe_bm PySem.F.plainAttrs_list PySem.F.slot_list_append PySem.F.type_list_append mt_appendG (pv 1) (pa_cons (pe_tupN (pa_cons (pe_ixG (hu_of hr) (pv 6) pe_int (fun _ _ => rfl)) (pa_cons (pe_callTy call_tupleG (by rfl) T.n_tuple (by decide +kernel) (pa_cons (pe_lc (own := [("_law_word", 9)]) (g := (gName 9)) (tt := tYes) rfl sc_law_read.nd (pi_seq (pe_slice sl_any (pv 6) (po_some pe_int) (po_some (pv 8)))) (blkOk_by (by kernel_rfl)) (fun _ _ _ _ _ => (pg_name (i := 9) sc_law_read.nd rfl (by first | exact Or.inl rfl | exact Or.inr rfl))) (fun _ _ _ _ _ => pts_nil) (fun _ _ _ _ _ => (pe_slice sl_any (pv 9) (po_some pe_int) po_none))) pa_nil)) (pa_cons (pe_cal c_law_built hr rfl (pa_cons (pv 6) (pa_cons (pe_lstN (pa_cons (pe_op op_addG (pv 8) pe_int) pa_nil)) pa_nil))) pa_nil)))) pa_nil)))))))))))
  (pss_one (ps_ret (pe_ifExp (pt_cmpR op_isG (pv 2) pe_non (nomark _)) (pe_tupN (pa_cons pe_str (pa_cons (pe_callB call_lenG (by rfl) T.n_len (by decide +kernel) (pa_cons (pv 3) pa_nil)) (pa_cons pe_int pa_nil)))) (pe_tupN (pa_cons pe_str (pa_cons (pe_tupN (pa_cons (pe_callTy call_tupleG (by rfl) T.n_tuple (by decide +kernel) (pa_cons (pv 1) pa_nil)) (pa_cons (pv 2) pa_nil))) pa_nil))))))))))
abbrev st_law_reads : Stmt := topS 61
theorem sc_law_reads : FnScope ["_law_text_here", "_law_found", "_law_caught", "e", "_law_some"] ["_law_text_here"] (defScope st_law_reads) := ⟨rfl, rfl, rfl, by decide +kernel, rfl, by decide +kernel, by decide +kernel⟩
theorem mk_law_reads {P : Program} {w : World} {K : PySem.W.Frag} {mg : Str → Option Value} {base : Heap} (T : TX w K mg) {j : Nat} {sp : Sp} {s_read : Sp} (c_read : CalX P w K mg base j "read" s_read)
    (pure_ : PureOk 1 sp (t_law_reads K w s_read) 5) : Cal P w K mg base (j + 1) "_law_reads" sp := by
  obtain ⟨fd, F⟩ := T.d_law_reads
  refine cal_mk F T.f_law_reads sc_law_reads (F.bindsN fun _ _ _ _ _ _ us hl => match us, hl with | [_], _ => rfl) pure_.len fun cdv A outer s H vs Q E hr h => ?_
  refine ⟨t_law_reads K w s_read, PSs.nox ?_, pure_.run vs H Q E h⟩
  exact (pss_cons (ps_set (i := 1) sc_law_reads.nd rfl (Or.inl rfl) pe_non)
  (pss_cons (ps_set (i := 2) sc_law_reads.nd rfl (Or.inl rfl) pe_non)
  (pss_cons (ps_try_keep rfl rfl rfl sc_law_reads.nd rfl rfl ⟨by rfl, by decide, Or.inl T.g_LazyError⟩ (fun W pn xe tk po => (pss_one (ps_set (i := 1) sc_law_reads.nd rfl (Or.inl rfl) (pe_calx c_read hr (by rfl) tk (pa_cons (pv 0) pa_nil))))) (fun a oe cls d pn _ _ => (pss_one (ps_set (i := 2) sc_law_reads.nd rfl (Or.inl rfl) (pv 3)))))
  (pss_cons (ps_if (pt_cmpR op_isG (pv 2) pe_non (nomark _)) (pss_one (ps_ret (pe_tupN (pa_cons pe_str (pa_cons (pv 1) pa_nil))))) pss_nil)
  (pss_cons (ps_set (i := 4) sc_law_reads.nd rfl (Or.inl rfl) (pe_lstN (pa_cons (pe_callB call_isiX (by rfl) T.n_isinstance (by decide +kernel) (pa_cons (pv 2) (pa_cons (pe_glob (v := .ref (He.ga K "NoProgram")) rfl T.g_NoProgram rfl) pa_nil))) (pa_cons (pe_callB call_isiX (by rfl) T.n_isinstance (by decide +kernel) (pa_cons (pv 2) (pa_cons (pe_glob (v := .ref (He.ga K "Twice")) rfl T.g_Twice rfl) pa_nil))) (pa_cons (pe_callB call_isiX (by rfl) T.n_isinstance (by decide +kernel) (pa_cons (pv 2) (pa_cons (pe_glob (v := .ref (He.ga K "Hidden")) rfl T.g_Hidden rfl) pa_nil))) pa_nil)))))
  (pss_cons (ps_set (i := 4) sc_law_reads.nd rfl (Or.inl rfl) (pe_op op_addG (pv 4) (pe_lstN (pa_cons (pe_callB call_isiX (by rfl) T.n_isinstance (by decide +kernel) (pa_cons (pv 2) (pa_cons (pe_glob (v := .ref (He.ga K "Stranger")) rfl T.g_Stranger rfl) pa_nil))) (pa_cons (pe_callB call_isiX (by rfl) T.n_isinstance (by decide +kernel) (pa_cons (pv 2) (pa_cons (pe_glob (v := .ref (He.ga K "NoText")) rfl T.g_NoText rfl) pa_nil))) (pa_cons (pe_callB call_isiX (by rfl) T.n_isinstance (by decide +kernel) (pa_cons (pv 2) (pa_cons (pe_glob (v := .ref (He.ga K "More")) rfl T.g_More rfl) pa_nil))) pa_nil))))))
  (pss_cons (ps_set (i := 4) sc_law_reads.nd rfl (Or.inl rfl) (pe_op op_addG (pv 4) (pe_lstN (pa_cons (pe_callB call_isiX (by rfl) T.n_isinstance (by decide +kernel) (pa_cons (pv 2) (pa_cons (pe_glob (v := .ref (He.ga K "NoRows")) rfl T.g_NoRows rfl) pa_nil))) (pa_cons (pe_callB call_isiX (by rfl) T.n_isinstance (by decide +kernel) (pa_cons (pv 2) (pa_cons (pe_glob (v := .ref (He.ga K "NoRow")) rfl T.g_NoRow rfl) pa_nil))) pa_nil)))))
  (pss_cons (ps_if (PW.pt (pw_or (pt_cmpR (op_neG (hu2_of hr)) (pe_bm PySem.F.plainAttrs_list PySem.F.slot_list_count PySem.F.type_list_count mt_count (pv 4) (pa_cons pe_bl pa_nil)) pe_int (nomark _)) (pw_or1 (pt_not (pt_tru (pe_callB call_isiX (by rfl) T.n_isinstance (by decide +kernel) (pa_cons (pv 2) (pa_cons (pe_bltn (v := .ty "ValueError") rfl T.n_ValueError (by decide +kernel) rfl) pa_nil))) (by intro _; rfl)))))) (pss_one (ps_ret (pe_tupN (pa_cons pe_str pa_nil)))) pss_nil)
  (pss_cons (ps_if (pt_tru (pe_ixG (hu_of hr) (pv 4) pe_int (fun _ _ => rfl)) (by intro _; rfl)) (pss_one (ps_ret (pe_tupN (pa_cons pe_str (pa_cons (pe_fldX (pv 2)) (pa_cons (pe_fldX (pv 2)) pa_nil)))))) pss_nil)
  (pss_one (ps_ret (pe_tupN (pa_cons (pe_ixG (hu_of hr) (pe_lstN (pa_cons pe_str (pa_cons pe_str (pa_cons pe_str (pa_cons pe_str (pa_cons pe_str (pa_cons pe_str (pa_cons pe_str (pa_cons pe_str pa_nil))))))))) (pe_bm PySem.F.plainAttrs_list PySem.F.slot_list_index PySem.F.type_list_index mt_index (pv 4) (pa_cons pe_bl pa_nil)) (fun _ _ => rfl)) (pa_cons (pe_fldX (pv 2)) pa_nil))))))))))))))
abbrev st_law_right : Stmt := topS 62
theorem sc_law_right : FnScope ["_law_text_here", "_law_due_here", "_law_other", "_law_found"] ["_law_text_here"] (defScope st_law_right) := ⟨rfl, rfl, rfl, by decide +kernel, rfl, by decide +kernel, by decide +kernel⟩
theorem mk_law_right {P : Program} {w : World} {K : PySem.W.Frag} {mg : Str → Option Value} {base : Heap} (T : TX w K mg) {j : Nat} {sp : Sp} {s_law_read s_law_due s_law_reads : Sp} (c_law_read : Cal P w K mg base j "_law_read" s_law_read) (c_law_due : Cal P w K mg base j "_law_due" s_law_due) (c_law_reads : Cal P w K mg base j "_law_reads" s_law_reads)
    (pure_ : PureOk 1 sp (t_law_right K w s_law_read s_law_due s_law_reads) 4) : Cal P w K mg base (j + 1) "_law_right" sp := by
  obtain ⟨fd, F⟩ := T.d_law_right
  refine cal_mk F T.f_law_right sc_law_right (F.bindsN fun _ _ _ _ _ _ us hl => match us, hl with | [_], _ => rfl) pure_.len fun cdv A outer s H vs Q E hr h => ?_
  refine ⟨t_law_right K w s_law_read s_law_due s_law_reads, PSs.nox ?_, pure_.run vs H Q E h⟩
  exact (pss_cons (ps_set (i := 1) sc_law_right.nd rfl (Or.inl rfl) (pe_cal c_law_read hr rfl (pa_cons (pv 0) pa_nil)))
  (pss_cons (ps_if (pt_cmpR (op_eqG (hu2_of hr)) (pe_ixG (hu_of hr) (pv 1) pe_int (fun _ _ => rfl)) pe_str (nomark _)) (pss_cons (ps_set (i := 2) sc_law_right.nd rfl (Or.inl rfl) (pe_cal c_law_due hr rfl (pa_cons (pe_ixG (hu_of hr) (pv 1) pe_int (fun _ _ => rfl)) pa_nil)))
  (pss_one (ps_set (i := 1) sc_law_right.nd rfl (Or.inl rfl) (pe_ifExp (pt_cmpR (op_eqG (hu2_of hr)) (pe_ixG (hu_of hr) (pv 2) pe_int (fun _ _ => rfl)) pe_str (nomark _)) (pv 1) (pv 2))))) pss_nil)
  (pss_cons (ps_set (i := 3) sc_law_right.nd rfl (Or.inl rfl) (pe_cal c_law_reads hr rfl (pa_cons (pv 0) pa_nil)))
  (pss_one (ps_ret (pe_andT (pe_cmpR (op_eqG (hu2_of hr)) (pv 3) (pv 1) (nomark _)) (pe_one (pe_orT (pe_cmpR (op_neG (hu2_of hr)) (pe_ixG (hu_of hr) (pv 1) pe_int (fun _ _ => rfl)) pe_str (nomark _)) (pe_one (pe_notT (pe_callB call_isiG (by rfl) T.n_isinstance (by decide +kernel) (pa_cons (pe_ixG (hu_of hr) (pv 3) pe_int (fun _ _ => rfl)) (pa_cons (pe_bltn (v := .ty "bool") rfl T.n_bool (by decide +kernel) rfl) pa_nil)))))))))))))
abbrev st_law_wide : Stmt := topS 63
theorem sc_law_wide : FnScope ["_law_many", "_law_half"] ["_law_many"] (defScope st_law_wide) := ⟨rfl, rfl, rfl, by decide +kernel, rfl, by decide +kernel, by decide +kernel⟩
theorem mk_law_wide {P : Program} {w : World} {K : PySem.W.Frag} {mg : Str → Option Value} {base : Heap} (T : TX w K mg) {j : Nat} {sp : Sp} {s_law_wide : Sp} (c_law_wide : Cal P w K mg base j "_law_wide" s_law_wide)
    (pure_ : PureOk 1 sp (t_law_wide K w s_law_wide) 2) : Cal P w K mg base (j + 1) "_law_wide" sp := by
  obtain ⟨fd, F⟩ := T.d_law_wide
  refine cal_mk F T.f_law_wide sc_law_wide (F.bindsN fun _ _ _ _ _ _ us hl => match us, hl with | [_], _ => rfl) pure_.len fun cdv A outer s H vs Q E hr h => ?_
  refine ⟨t_law_wide K w s_law_wide, PSs.nox ?_, pure_.run vs H Q E h⟩
  exact (pss_cons (ps_if (pt_cmpR op_lt (pv 0) pe_int (nomark _)) (pss_one (ps_ret (pe_ifExp (pt_cmpR (op_eqG (hu2_of hr)) (pv 0) pe_int (nomark _)) (pe_lstN (pa_cons pe_str pa_nil)) (pe_lstN (pa_cons pe_str (pa_cons pe_str pa_nil)))))) pss_nil)
  (pss_cons (ps_set (i := 1) sc_law_wide.nd rfl (Or.inl rfl) (pe_op op_fdivW (pe_op op_sub (pv 0) pe_int) pe_int))
  (pss_one (ps_ret (pe_op op_addG (pe_op op_addG (pe_lstN (pa_cons pe_str pa_nil)) (pe_cal c_law_wide hr rfl (pa_cons (pv 1) pa_nil))) (pe_cal c_law_wide hr rfl (pa_cons (pe_op op_sub (pe_op op_sub (pv 0) pe_int) (pv 1)) pa_nil)))))))
abbrev st_law_great : Stmt := topS 64
theorem sc_law_great : FnScope ["_law_pen_here", "_law_way", "_law_many", "_law_found", "_law_k", "_law_some", "_law_parts"] ["_law_pen_here"] (defScope st_law_great) := ⟨rfl, rfl, rfl, by decide +kernel, rfl, by decide +kernel, by decide +kernel⟩
theorem mk_law_great {P : Program} {w : World} {K : PySem.W.Frag} {mg : Str → Option Value} {base : Heap} (T : TX w K mg) {j : Nat} {sp : Sp} {s_law_draw s_law_wide : Sp} (c_law_draw : Cal P w K mg base j "_law_draw" s_law_draw) (c_law_wide : Cal P w K mg base j "_law_wide" s_law_wide)
    (pure_ : PureOk 1 sp (t_law_great K w s_law_draw s_law_wide) 7) : Cal P w K mg base (j + 1) "_law_great" sp := by
  obtain ⟨fd, F⟩ := T.d_law_great
  refine cal_mk F T.f_law_great sc_law_great (F.bindsN fun _ _ _ _ _ _ us hl => match us, hl with | [_], _ => rfl) pure_.len fun cdv A outer s H vs Q E hr h => ?_
  refine ⟨t_law_great K w s_law_draw s_law_wide, PSs.nox ?_, pure_.run vs H Q E h⟩
  exact (pss_cons (ps_set (i := 1) sc_law_great.nd rfl (Or.inl rfl) (pe_cal c_law_draw hr rfl (pa_cons (pv 0) (pa_cons pe_int pa_nil))))
  (pss_cons (ps_if (pt_cmpR (op_eqG (hu2_of hr)) (pv 1) pe_int (nomark _)) (pss_cons (ps_set (i := 2) sc_law_great.nd rfl (Or.inl rfl) (pe_op op_addG pe_int (pe_cal c_law_draw hr rfl (pa_cons (pv 0) (pa_cons pe_int pa_nil)))))
  (pss_one (ps_ret (pe_ixG (hu_of hr) (pe_lstN (pa_cons (pe_cal c_law_wide hr rfl (pa_cons (pv 2) pa_nil)) (pa_cons (pe_op op_addG (pe_lstN (pa_cons pe_str (pa_cons pe_str (pa_cons pe_str (pa_cons pe_str pa_nil))))) (pe_cal c_law_wide hr rfl (pa_cons (pe_op op_sub (pv 2) pe_int) pa_nil))) pa_nil))) (pe_cal c_law_draw hr rfl (pa_cons (pv 0) (pa_cons pe_int pa_nil))) (fun _ _ => rfl))))) pss_nil)
  (pss_cons (ps_if (pt_cmpR (op_eqG (hu2_of hr)) (pv 1) pe_int (nomark _)) (pss_cons (ps_set (i := 3) sc_law_great.nd rfl (Or.inl rfl) (pe_op op_addG (pe_lc (own := [("_law_k", 4)]) (g := (gName 4)) (tt := tYes) rfl sc_law_great.nd (pi_range1 (by rfl) T.n_range (pa_cons (pe_op op_addG pe_int (pe_cal c_law_draw hr rfl (pa_cons (pv 0) (pa_cons pe_int pa_nil)))) pa_nil)) (blkOk_by (by kernel_rfl)) (fun _ _ _ _ _ => (pg_name (i := 4) sc_law_great.nd rfl (by first | exact Or.inl rfl | exact Or.inr rfl))) (fun _ _ _ _ _ => pts_nil) (fun _ _ _ _ _ => (pe_ixG (hu_of hr) (pe_lstN (pa_cons pe_str (pa_cons pe_str pa_nil))) (pe_cal c_law_draw hr rfl (pa_cons (pv 0) (pa_cons pe_int pa_nil))) (fun _ _ => rfl)))) (pe_lstN (pa_cons pe_str pa_nil))))
  (pss_cons (ps_set (i := 5) sc_law_great.nd rfl (Or.inl rfl) (pe_lstN (pa_cons (pv 3) (pa_cons (pe_op op_addG (pe_op op_addG (pe_lstN (pa_cons pe_str (pa_cons pe_str (pa_cons pe_str pa_nil)))) (pe_slice sl_any (pv 3) (po_some pe_int) po_none)) (pe_lstN (pa_cons pe_str pa_nil))) (pa_cons (pe_op op_addG (pe_op op_addG (pe_lstN (pa_cons pe_str (pa_cons pe_str (pa_cons pe_str (pa_cons pe_str pa_nil))))) (pe_slice sl_any (pv 3) (po_some pe_int) (po_some (pe_un un_neg pe_int)))) (pe_lstN (pa_cons pe_str pa_nil))) pa_nil)))))
  (pss_one (ps_ret (pe_ixG (hu_of hr) (pv 5) (pe_cal c_law_draw hr rfl (pa_cons (pv 0) (pa_cons pe_int pa_nil))) (fun _ _ => rfl)))))) pss_nil)
  (pss_cons (ps_if (pt_cmpR (op_eqG (hu2_of hr)) (pv 1) pe_int (nomark _)) (pss_cons (ps_set (i := 2) sc_law_great.nd rfl (Or.inl rfl) (pe_op op_addG pe_int (pe_cal c_law_draw hr rfl (pa_cons (pv 0) (pa_cons pe_int pa_nil)))))
  (pss_cons (ps_set (i := 3) sc_law_great.nd rfl (Or.inl rfl) (pe_lstN (pa_cons pe_str (pa_cons (pe_callTy call_str_int (by rfl) T.n_str (by decide +kernel) (pa_cons (pv 2) pa_nil)) pa_nil))))
  (pss_cons (ps_for PassesOwn.never rfl (pi_range1 (by rfl) T.n_range (pa_cons (pv 2) pa_nil)) (pg_name (i := 4) sc_law_great.nd rfl (by first | exact Or.inl rfl | exact Or.inr rfl)) (pss_one (ps_set (i := 3) sc_law_great.nd rfl (Or.inl rfl) (pe_op op_addG (pv 3) (pe_lstN (pa_cons (pe_op op_addG pe_str (pe_ixG (hu_of hr) pe_str (pv 4) (fun _ _ => rfl))) (pa_cons pe_str pa_nil)))))))
  (pss_one (ps_ret (pe_op op_addG (pv 3) (pe_lstN (pa_cons pe_str pa_nil)))))))) pss_nil)
  (pss_cons (ps_if (pt_cmpR (op_eqG (hu2_of hr)) (pv 1) pe_int (nomark _)) (pss_one (ps_ret (pe_lstN (pa_cons (pe_op op_addG (pe_ixG (hu_of hr) (pe_lstN (pa_cons pe_str (pa_cons pe_str pa_nil))) (pe_cal c_law_draw hr rfl (pa_cons (pv 0) (pa_cons pe_int pa_nil))) (fun _ _ => rfl)) (pe_op op_mulS (pe_ixG (hu_of hr) pe_str (pe_cal c_law_draw hr rfl (pa_cons (pv 0) (pa_cons pe_int pa_nil))) (fun _ _ => rfl)) (pe_op op_addG pe_int (pe_cal c_law_draw hr rfl (pa_cons (pv 0) (pa_cons pe_int pa_nil)))))) pa_nil)))) pss_nil)
  (pss_cons (ps_set (i := 6) sc_law_great.nd rfl (Or.inl rfl) (pe_lstN (pa_cons pe_str pa_nil)))
  (pss_cons (ps_for PassesOwn.never rfl (pi_range1 (by rfl) T.n_range (pa_cons pe_int pa_nil)) (pg_name (i := 4) sc_law_great.nd rfl (by first | exact Or.inl rfl | exact Or.inr rfl)) (pss_one (ps_set (i := 6) sc_law_great.nd rfl (Or.inl rfl) (pe_op op_addG (pe_op op_addG (pe_lstN (pa_cons pe_str pa_nil)) (pv 6)) (pv 6)))))
  (pss_one (ps_ret (pe_slice sl_any (pv 6) po_none (po_some (pe_op op_addG (pe_cal c_law_draw hr rfl (pa_cons (pv 0) (pa_cons (pe_callB call_lenG (by rfl) T.n_len (by decide +kernel) (pa_cons (pv 6) pa_nil)) pa_nil))) pe_int))))))))))))
abbrev st_law_by_rows : Stmt := topS 65
theorem sc_law_by_rows : FnScope ["_law_pen_here", "_law_rows", "_law_at", "_law_other", "_law_head", "_law_names_here", "_law_k", "_law_some", "_law_great_here", "_law_many", "_law_things"] ["_law_pen_here", "_law_rows"] (defScope st_law_by_rows) := ⟨rfl, rfl, rfl, by decide +kernel, rfl, by decide +kernel, by decide +kernel⟩
theorem mk_law_by_rows {P : Program} {w : World} {K : PySem.W.Frag} {mg : Str → Option Value} {base : Heap} (T : TX w K mg) {j : Nat} {sp : Sp} {s_law_draw s_law_great : Sp} (c_law_draw : Cal P w K mg base j "_law_draw" s_law_draw) (c_law_great : Cal P w K mg base j "_law_great" s_law_great)
    (pure_ : PureOk 2 sp (t_law_by_rows K w s_law_draw s_law_great) 11) : Cal P w K mg base (j + 1) "_law_by_rows" sp := by
  obtain ⟨fd, F⟩ := T.d_law_by_rows
  refine cal_mk F T.f_law_by_rows sc_law_by_rows (F.bindsN fun _ _ _ _ _ _ us hl => match us, hl with | [_, _], _ => rfl) pure_.len fun cdv A outer s H vs Q E hr h => ?_
  refine ⟨t_law_by_rows K w s_law_draw s_law_great, PSs.nox ?_, pure_.run vs H Q E h⟩
  exact (pss_cons (ps_par (i := 2) (j := 3) (by rfl) sc_law_by_rows.nd rfl rfl (by decide) rfl rfl (pa_cons (pe_cal c_law_draw hr rfl (pa_cons (pv 0) (pa_cons (pe_callB call_lenG (by rfl) T.n_len (by decide +kernel) (pa_cons (pv 1) pa_nil)) pa_nil))) (pa_cons (pe_cal c_law_draw hr rfl (pa_cons (pv 0) (pa_cons (pe_callB call_lenG (by rfl) T.n_len (by decide +kernel) (pa_cons (pv 1) pa_nil)) pa_nil))) pa_nil)) (by rfl))
  (pss_cons (ps_set (i := 4) sc_law_by_rows.nd rfl (Or.inl rfl) (pe_slice sl_any (pe_ixG (hu_of hr) (pv 1) (pv 2) (fun _ _ => rfl)) po_none (po_some pe_int)))
  (pss_cons (ps_if (pt_cmpR (op_inG (hu_of hr)) pe_str (pe_ixG (hu_of hr) (pv 1) (pv 2) (fun _ _ => rfl)) (by rfl)) (pss_one (ps_set (i := 4) sc_law_by_rows.nd rfl (Or.inl rfl) (pe_slice sl_any (pe_ixG (hu_of hr) (pv 1) (pv 2) (fun _ _ => rfl)) po_none (po_some (pe_op op_addG (pe_bm PySem.F.plainAttrs_list PySem.F.slot_list_index PySem.F.type_list_index mt_index (pe_ixG (hu_of hr) (pv 1) (pv 2) (fun _ _ => rfl)) (pa_cons pe_str pa_nil)) pe_int))))) pss_nil)
  (pss_cons (ps_setLc (i := 5) (own := [("_law_k", 6)]) (g := (gName 6)) (tt := tYes) rfl sc_law_by_rows.nd rfl rfl (sw_true rfl rfl rfl (by decide +kernel)) (pi_range1 (by rfl) T.n_range (pa_cons pe_int pa_nil)) (blkOk_by (by kernel_rfl)) (fun _ _ _ _ _ => (pg_name (i := 6) sc_law_by_rows.nd rfl (by first | exact Or.inl rfl | exact Or.inr rfl))) (fun _ _ _ _ _ => pts_nil) (fun _ _ _ _ _ => (pe_lstN (pa_cons (pe_op op_addG pe_str (pe_ixG (hu_of hr) pe_str (pv 6) (fun _ _ => rfl))) (pa_cons pe_str (pa_cons pe_str pa_nil))))))
  (pss_cons (ps_set (i := 7) sc_law_by_rows.nd rfl (Or.inl rfl) (pe_lstN (pa_cons (pe_op op_addG (pe_op op_addG (pe_slice sl_any (pv 1) po_none (po_some (pv 2))) (pe_lstN (pa_cons (pe_lstN (pa_cons pe_str pa_nil)) pa_nil))) (pe_slice sl_any (pv 1) (po_some (pv 2)) po_none)) (pa_cons (pe_op op_addG (pe_slice sl_any (pv 1) po_none (po_some (pv 2))) (pe_slice sl_any (pv 1) (po_some (pe_op op_addG (pv 2) pe_int)) po_none)) (pa_cons (pe_op op_addG (pe_slice sl_any (pv 1) po_none (po_some (pe_op op_addG (pv 2) pe_int))) (pe_slice sl_any (pv 1) (po_some (pv 2)) po_none)) (pa_cons (pe_op op_addG (pv 1) (pe_lstN (pa_cons (pe_lstN (pa_cons pe_str pa_nil)) pa_nil))) pa_nil))))))
  (pss_cons (ps_set (i := 8) sc_law_by_rows.nd rfl (Or.inl rfl) (pe_op op_addG (pe_op op_addG (pe_slice sl_any (pv 1) po_none (po_some (pv 2))) (pe_lstN (pa_cons (pe_op op_addG (pv 4) (pe_cal c_law_great hr rfl (pa_cons (pv 0) pa_nil))) pa_nil))) (pe_slice sl_any (pv 1) (po_some (pe_op op_addG (pv 2) pe_int)) po_none)))
  (pss_cons (ps_set (i := 7) sc_law_by_rows.nd rfl (Or.inl rfl) (pe_op op_addG (pv 7) (pe_op op_repG (pe_lstN (pa_cons (pv 8) pa_nil)) pe_int)))
  (pss_cons (ps_set (i := 9) sc_law_by_rows.nd rfl (Or.inl rfl) (pe_op op_addG (pe_op op_sub pe_int (pe_callB call_lenG (by rfl) T.n_len (by decide +kernel) (pa_cons (pv 1) pa_nil))) (pe_cal c_law_draw hr rfl (pa_cons (pv 0) (pa_cons pe_int pa_nil)))))
  (pss_cons (ps_expr (pe_bm PySem.F.plainAttrs_list PySem.F.slot_list_append PySem.F.type_list_append mt_appendG (pv 7) (pa_cons (pe_op op_addG (pe_slice sl_any (pv 5) po_none (po_some (pv 9))) (pv 1)) pa_nil)))
  (pss_cons (ps_expr (pe_bm PySem.F.plainAttrs_list PySem.F.slot_list_append PySem.F.type_list_append mt_appendG (pv 7) (pa_cons (pe_op op_addG (pe_op op_addG (pe_slice sl_any (pv 1) po_none (po_some (pv 2))) (pe_lstN (pa_cons (pe_ixG (hu_of hr) (pv 1) (pv 3) (fun _ _ => rfl)) pa_nil))) (pe_slice sl_any (pv 1) (po_some (pe_op op_addG (pv 2) pe_int)) po_none)) pa_nil)))
  (pss_cons (ps_setLc (i := 10) (own := [("_law_k", 6)]) (g := (gName 6)) (tt := tYes) rfl sc_law_by_rows.nd rfl rfl (sw_true rfl rfl rfl (by decide +kernel)) (pi_range1 (by rfl) T.n_range (pa_cons (pe_op op_addG pe_int (pe_cal c_law_draw hr rfl (pa_cons (pv 0) (pa_cons pe_int pa_nil)))) pa_nil)) (blkOk_by (by kernel_rfl)) (fun _ _ _ _ _ => (pg_name (i := 6) sc_law_by_rows.nd rfl (by first | exact Or.inl rfl | exact Or.inr rfl))) (fun _ _ _ _ _ => pts_nil) (fun _ _ _ _ _ => (pe_op op_addG pe_str (pe_ixG (hu_of hr) pe_str (pv 6) (fun _ _ => rfl)))))
  (pss_cons (ps_expr (pe_bm PySem.F.plainAttrs_list PySem.F.slot_list_append PySem.F.type_list_append mt_appendG (pv 7) (pa_cons (pe_op op_addG (pe_op op_addG (pe_slice sl_any (pv 1) po_none (po_some (pv 2))) (pe_lstN (pa_cons (pe_op op_addG (pe_op op_addG (pe_lstN (pa_cons pe_str pa_nil)) (pv 10)) (pe_lstN (pa_cons pe_str (pa_cons pe_str pa_nil)))) pa_nil))) (pe_slice sl_any (pv 1) (po_some (pv 2)) po_none)) pa_nil)))
  (pss_cons (ps_expr (pe_bm PySem.F.plainAttrs_list PySem.F.slot_list_append PySem.F.type_list_append mt_appendG (pv 7) (pa_cons (pe_op op_addG (pv 1) (pe_slice sl_any (pv 1) (po_some (pv 2)) (po_some (pe_op op_addG (pv 2) pe_int)))) pa_nil)))
  (pss_one (ps_ret (pe_ixG (hu_of hr) (pv 7) (pe_cal c_law_draw hr rfl (pa_cons (pv 0) (pa_cons (pe_callB call_lenG (by rfl) T.n_len (by decide +kernel) (pa_cons (pv 7) pa_nil)) pa_nil))) (fun _ _ => rfl)))))))))))))))))
abbrev st_law : Stmt := topS 66
theorem sc_law : FnScope ["_law_script", "_law_pen_here", "_law_turn", "_law_rows", "_law_again", "_law_changed"] ["_law_script"] (defScope st_law) := ⟨rfl, rfl, rfl, by decide +kernel, rfl, by decide +kernel, by decide +kernel⟩
theorem mkl_law {P : Program} {w : World} {K : PySem.W.Frag} {mg : Str → Option Value} {base : Heap} {fd : FuncData} (F : FunD K "law" "law" (defArgs (topS 66)) (defBody (topS 66)) (defScope (topS 66)) [] [] (He.ga K "law") fd) (T : TX w K mg) {j : Nat} {sp : Sp} {s_law_pen s_law_base s_law_by_rows s_law_draw s_law_right s_law_text : Sp} (c_law_pen : Cal P w K mg base j "_law_pen" s_law_pen) (c_law_base : Cal P w K mg base j "_law_base" s_law_base) (c_law_by_rows : Cal P w K mg base j "_law_by_rows" s_law_by_rows) (c_law_draw : Cal P w K mg base j "_law_draw" s_law_draw) (c_law_right : Cal P w K mg base j "_law_right" s_law_right) (c_law_text : Cal P w K mg base j "_law_text" s_law_text)
    (pure_ : PureOk 1 sp (t_law K w s_law_pen s_law_base s_law_by_rows s_law_draw s_law_right s_law_text) 6) : FnOk P w K mg base CX0 (j + 1) (He.ga K "law") fd ["_law_script"] sp := by
  refine F.ok sc_law pure_.len fun cdv A outer s H vs Q E hr h => ?_
  refine ⟨t_law K w s_law_pen s_law_base s_law_by_rows s_law_draw s_law_right s_law_text, PSs.nox ?_, pure_.run vs H Q E h⟩
  exact (pss_cons (ps_set (i := 1) sc_law.nd rfl (Or.inl rfl) (pe_cal c_law_pen hr rfl (pa_cons (pv 0) pa_nil)))
  (pss_cons (ps_for PassesOwn.never rfl (pi_range1 (by rfl) T.n_range (pa_cons (pe_callB (call_max2 rfl) (by rfl) T.n_max (by decide +kernel) (pa_cons pe_int (pa_cons (pe_callB (call_min2 rfl) (by rfl) T.n_min (by decide +kernel) (pa_cons pe_int (pa_cons (pe_callB call_lenG (by rfl) T.n_len (by decide +kernel) (pa_cons (pv 0) pa_nil)) pa_nil))) pa_nil))) pa_nil)) (pg_name (i := 2) sc_law.nd rfl (by first | exact Or.inl rfl | exact Or.inr rfl)) (pss_cons (ps_set (i := 3) sc_law.nd rfl (Or.inl rfl) (pe_cal c_law_base hr rfl (pa_cons (pv 1) pa_nil)))
  (pss_cons (ps_for PassesOwn.never rfl (pi_range1 (by rfl) T.n_range (pa_cons (pe_callB (call_max2 rfl) (by rfl) T.n_max (by decide +kernel) (pa_cons pe_int (pa_cons (pe_callB (call_min2 rfl) (by rfl) T.n_min (by decide +kernel) (pa_cons pe_int (pa_cons (pe_callB call_lenG (by rfl) T.n_len (by decide +kernel) (pa_cons (pv 0) pa_nil)) pa_nil))) pa_nil))) pa_nil)) (pg_name (i := 4) sc_law.nd rfl (by first | exact Or.inl rfl | exact Or.inr rfl)) (pss_cons (ps_set (i := 5) sc_law.nd rfl (Or.inl rfl) (pe_cal c_law_by_rows hr rfl (pa_cons (pv 1) (pa_cons (pv 3) pa_nil))))
  (pss_cons (ps_if (PW.pt (pw_and (pt_cmpR (op_eqG (hu2_of hr)) (pe_cal c_law_draw hr rfl (pa_cons (pv 1) (pa_cons pe_int pa_nil))) pe_int (nomark _)) (pw_and1 (pt_cmpR (op_neG (hu2_of hr)) (pv 5) (pe_lstN pa_nil) (nomark _))))) (pss_one (ps_set (i := 5) sc_law.nd rfl (Or.inl rfl) (pe_cal c_law_by_rows hr rfl (pa_cons (pv 1) (pa_cons (pv 5) pa_nil))))) pss_nil)
  (pss_one (ps_if (PW.pt (pw_and (pt_cmpR (op_neG (hu2_of hr)) (pv 5) (pe_lstN pa_nil) (nomark _)) (pw_and1 (pt_not (pt_tru (pe_cal c_law_right hr rfl (pa_cons (pe_cal c_law_text hr rfl (pa_cons (pv 5) pa_nil)) pa_nil)) (by intro _; rfl)))))) (pss_one (ps_ret pe_bl)) pss_nil)))))
  (pss_one (ps_if (pt_not (pt_tru (pe_cal c_law_right hr rfl (pa_cons (pe_cal c_law_text hr rfl (pa_cons (pv 3) pa_nil)) pa_nil)) (by intro _; rfl))) (pss_one (ps_ret pe_bl)) pss_nil)))))
  (pss_one (ps_ret pe_bl))))
theorem nv_look_named {P : Program} {w : World} {K : PySem.W.Frag} {mg : Str → Option Value} {base : Heap} (T : TX w K mg) {sp : Sp} (no : ∀ vs H Q E, ¬ sp vs H Q E) : CalX P w K mg base 1 "look_named" sp := by
  obtain ⟨fd, F⟩ := T.d_look_named
  exact calx_mk F T.f_look_named sc_look_named (F.bindsN fun _ _ _ _ _ _ us hl => match us, hl with | [_, _, _], _ => rfl) (fun vs H Q E h => (no _ _ _ _ h).elim) fun cdv A outer s H vs Q E hr h => (no _ _ _ _ h).elim
theorem nv_law_lets {P : Program} {w : World} {K : PySem.W.Frag} {mg : Str → Option Value} {base : Heap} (T : TX w K mg) {sp : Sp} (no : ∀ vs H Q E, ¬ sp vs H Q E) : Cal P w K mg base 1 "_law_lets" sp := by
  obtain ⟨fd, F⟩ := T.d_law_lets
  exact cal_mk F T.f_law_lets sc_law_lets (F.bindsN fun _ _ _ _ _ _ us hl => match us, hl with | [_], _ => rfl) (fun vs H Q E h => (no _ _ _ _ h).elim) fun cdv A outer s H vs Q E hr h => (no _ _ _ _ h).elim
theorem nv_law_strange {P : Program} {w : World} {K : PySem.W.Frag} {mg : Str → Option Value} {base : Heap} (T : TX w K mg) {sp : Sp} (no : ∀ vs H Q E, ¬ sp vs H Q E) : Cal P w K mg base 1 "_law_strange" sp := by
  obtain ⟨fd, F⟩ := T.d_law_strange
  exact cal_mk F T.f_law_strange sc_law_strange (F.bindsN fun _ _ _ _ _ _ us hl => match us, hl with | [_, _, _], _ => rfl) (fun vs H Q E h => (no _ _ _ _ h).elim) fun cdv A outer s H vs Q E hr h => (no _ _ _ _ h).elim
theorem nv_PartReader_part {P : Program} {w : World} {K : PySem.W.Frag} {mg : Str → Option Value} {base : Heap} (T : TX w K mg) {sp : Sp} (no : ∀ vs H Q E, ¬ sp vs H Q E) : MCalX P w K mg base 1 (He.ga K "PartReader") "part" sp := by
  obtain ⟨fd, F⟩ := T.d_PartReader_part
  exact mcalx_mk F T.m_PartReader_part T.c_PartReader sc_PartReader_part (F.bindsN fun _ _ _ _ _ _ us hl => match us, hl with | [_, _], _ => rfl) (fun vs H Q E h => (no _ _ _ _ h).elim) fun cdv A outer s H vs Q E hr h => (no _ _ _ _ h).elim
theorem nv_law_built {P : Program} {w : World} {K : PySem.W.Frag} {mg : Str → Option Value} {base : Heap} (T : TX w K mg) {sp : Sp} (no : ∀ vs H Q E, ¬ sp vs H Q E) : Cal P w K mg base 1 "_law_built" sp := by
  obtain ⟨fd, F⟩ := T.d_law_built
  exact cal_mk F T.f_law_built sc_law_built (F.bindsN fun _ _ _ _ _ _ us hl => match us, hl with | [_, _], _ => rfl) (fun vs H Q E h => (no _ _ _ _ h).elim) fun cdv A outer s H vs Q E hr h => (no _ _ _ _ h).elim
theorem nv_law_wide {P : Program} {w : World} {K : PySem.W.Frag} {mg : Str → Option Value} {base : Heap} (T : TX w K mg) {sp : Sp} (no : ∀ vs H Q E, ¬ sp vs H Q E) : Cal P w K mg base 1 "_law_wide" sp := by
  obtain ⟨fd, F⟩ := T.d_law_wide
  exact cal_mk F T.f_law_wide sc_law_wide (F.bindsN fun _ _ _ _ _ _ us hl => match us, hl with | [_], _ => rfl) (fun vs H Q E h => (no _ _ _ _ h).elim) fun cdv A outer s H vs Q E hr h => (no _ _ _ _ h).elim
theorem tx_mk {w : World} {K : PySem.W.Frag} {h h2 : Heap} {mg : Str → Option Value} (X : K.In h) (G : h.Ns mainGlobals mg) (c : He.SaysX hfa hfn hts [] hex w h2 K) : TX w K mg := by
  have hm := c.more
  unfold hex at hm
  simp only [Bool.and_eq_true] at hm
  exact {
    d_Twice___init__ := c.t.d.def_ 0 rfl
    d_Hidden___init__ := c.t.d.def_ 1 rfl
    d_Stranger___init__ := c.t.d.def_ 2 rfl
    d_NoText___init__ := c.t.d.def_ 3 rfl
    d_is_name := c.t.d.def_ 4 rfl
    f_is_name := He.glo_ok X G (c.t.d.fact 0 (f := .glo "is_name") rfl)
    d_is_whole := c.t.d.def_ 5 rfl
    f_is_whole := He.glo_ok X G (c.t.d.fact 1 (f := .glo "is_whole") rfl)
    d_is_small := c.t.d.def_ 6 rfl
    f_is_small := He.glo_ok X G (c.t.d.fact 2 (f := .glo "is_small") rfl)
    d_within := c.t.d.def_ 7 rfl
    f_within := He.glo_ok X G (c.t.d.fact 3 (f := .glo "within") rfl)
    d_in_order := c.t.d.def_ 8 rfl
    f_in_order := He.glo_ok X G (c.t.d.fact 4 (f := .glo "in_order") rfl)
    d_is_row := c.t.d.def_ 9 rfl
    f_is_row := He.glo_ok X G (c.t.d.fact 5 (f := .glo "is_row") rfl)
    d_are_rows := c.t.d.def_ 10 rfl
    f_are_rows := He.glo_ok X G (c.t.d.fact 6 (f := .glo "are_rows") rfl)
    d_parts_of := c.t.d.def_ 11 rfl
    f_parts_of := He.glo_ok X G (c.t.d.fact 7 (f := .glo "parts_of") rfl)
    d_is_body := c.t.d.def_ 12 rfl
    f_is_body := He.glo_ok X G (c.t.d.fact 8 (f := .glo "is_body") rfl)
    d_is_function := c.t.d.def_ 13 rfl
    f_is_function := He.glo_ok X G (c.t.d.fact 9 (f := .glo "is_function") rfl)
    d_is_built := c.t.d.def_ 14 rfl
    f_is_built := He.glo_ok X G (c.t.d.fact 10 (f := .glo "is_built") rfl)
    d_row_names := c.t.d.def_ 15 rfl
    f_row_names := He.glo_ok X G (c.t.d.fact 11 (f := .glo "row_names") rfl)
    d_look_unlike := c.t.d.def_ 16 rfl
    f_look_unlike := He.glo_ok X G (c.t.d.fact 12 (f := .glo "look_unlike") rfl)
    d_look_named := c.t.d.def_ 17 rfl
    f_look_named := He.glo_ok X G (c.t.d.fact 13 (f := .glo "look_named") rfl)
    d_looked := c.t.d.def_ 18 rfl
    f_looked := He.glo_ok X G (c.t.d.fact 14 (f := .glo "looked") rfl)
    d_is_figures := c.t.d.def_ 19 rfl
    f_is_figures := He.glo_ok X G (c.t.d.fact 15 (f := .glo "is_figures") rfl)
    d_is_marked := c.t.d.def_ 20 rfl
    f_is_marked := He.glo_ok X G (c.t.d.fact 16 (f := .glo "is_marked") rfl)
    d_PartReader___init__ := c.t.d.def_ 21 rfl
    i_PartReader := He.mkr_ok (c.t.d.fact 17 (f := .mkr "PartReader") rfl)
    d_PartReader_refuse := c.t.d.def_ 22 rfl
    m_PartReader_refuse := He.meth_ok (c.t.d.fact 18 (f := .meth "PartReader" "refuse") rfl)
    d_PartReader_now := c.t.d.def_ 23 rfl
    m_PartReader_now := He.meth_ok (c.t.d.fact 19 (f := .meth "PartReader" "now") rfl)
    d_PartReader_mark := c.t.d.def_ 24 rfl
    m_PartReader_mark := He.meth_ok (c.t.d.fact 20 (f := .meth "PartReader" "mark") rfl)
    d_PartReader_begin := c.t.d.def_ 25 rfl
    m_PartReader_begin := He.meth_ok (c.t.d.fact 21 (f := .meth "PartReader" "begin") rfl)
    d_PartReader_let_rows := c.t.d.def_ 26 rfl
    m_PartReader_let_rows := He.meth_ok (c.t.d.fact 22 (f := .meth "PartReader" "let_rows") rfl)
    d_PartReader_part := c.t.d.def_ 27 rfl
    m_PartReader_part := He.meth_ok (c.t.d.fact 23 (f := .meth "PartReader" "part") rfl)
    d_PartReader_whole := c.t.d.def_ 28 rfl
    m_PartReader_whole := He.meth_ok (c.t.d.fact 24 (f := .meth "PartReader" "whole") rfl)
    d_read_part := c.t.d.def_ 29 rfl
    f_read_part := He.glo_ok X G (c.t.d.fact 25 (f := .glo "read_part") rfl)
    d_read_function := c.t.d.def_ 30 rfl
    f_read_function := He.glo_ok X G (c.t.d.fact 26 (f := .glo "read_function") rfl)
    d_read := c.t.d.def_ 31 rfl
    f_read := He.glo_ok X G (c.t.d.fact 27 (f := .glo "read") rfl)
    d_law_pen := c.t.d.def_ 32 rfl
    f_law_pen := He.glo_ok X G (c.t.d.fact 28 (f := .glo "_law_pen") rfl)
    d_law_draw := c.t.d.def_ 33 rfl
    f_law_draw := He.glo_ok X G (c.t.d.fact 29 (f := .glo "_law_draw") rfl)
    d_law_names := c.t.d.def_ 34 rfl
    f_law_names := He.glo_ok X G (c.t.d.fact 30 (f := .glo "_law_names") rfl)
    d_law_base := c.t.d.def_ 35 rfl
    f_law_base := He.glo_ok X G (c.t.d.fact 31 (f := .glo "_law_base") rfl)
    d_law_text := c.t.d.def_ 36 rfl
    f_law_text := He.glo_ok X G (c.t.d.fact 32 (f := .glo "_law_text") rfl)
    d_law_is_name := c.t.d.def_ 37 rfl
    f_law_is_name := He.glo_ok X G (c.t.d.fact 33 (f := .glo "_law_is_name") rfl)
    d_law_inner := c.t.d.def_ 38 rfl
    f_law_inner := He.glo_ok X G (c.t.d.fact 34 (f := .glo "_law_inner") rfl)
    d_law_is_body := c.t.d.def_ 39 rfl
    f_law_is_body := He.glo_ok X G (c.t.d.fact 35 (f := .glo "_law_is_body") rfl)
    d_law_is_function := c.t.d.def_ 40 rfl
    f_law_is_function := He.glo_ok X G (c.t.d.fact 36 (f := .glo "_law_is_function") rfl)
    d_law_lets := c.t.d.def_ 41 rfl
    f_law_lets := He.glo_ok X G (c.t.d.fact 37 (f := .glo "_law_lets") rfl)
    d_law_strange := c.t.d.def_ 42 rfl
    f_law_strange := He.glo_ok X G (c.t.d.fact 38 (f := .glo "_law_strange") rfl)
    d_law_due := c.t.d.def_ 43 rfl
    f_law_due := He.glo_ok X G (c.t.d.fact 39 (f := .glo "_law_due") rfl)
    d_law_figures := c.t.d.def_ 44 rfl
    f_law_figures := He.glo_ok X G (c.t.d.fact 40 (f := .glo "_law_figures") rfl)
    d_law_marked := c.t.d.def_ 45 rfl
    f_law_marked := He.glo_ok X G (c.t.d.fact 41 (f := .glo "_law_marked") rfl)
    d_law_part_wrong := c.t.d.def_ 46 rfl
    f_law_part_wrong := He.glo_ok X G (c.t.d.fact 42 (f := .glo "_law_part_wrong") rfl)
    d_law_row_wrong := c.t.d.def_ 47 rfl
    f_law_row_wrong := He.glo_ok X G (c.t.d.fact 43 (f := .glo "_law_row_wrong") rfl)
    d_law_built := c.t.d.def_ 48 rfl
    f_law_built := He.glo_ok X G (c.t.d.fact 44 (f := .glo "_law_built") rfl)
    d_law_read := c.t.d.def_ 49 rfl
    f_law_read := He.glo_ok X G (c.t.d.fact 45 (f := .glo "_law_read") rfl)
    d_law_reads := c.t.d.def_ 50 rfl
    f_law_reads := He.glo_ok X G (c.t.d.fact 46 (f := .glo "_law_reads") rfl)
    d_law_right := c.t.d.def_ 51 rfl
    f_law_right := He.glo_ok X G (c.t.d.fact 47 (f := .glo "_law_right") rfl)
    d_law_wide := c.t.d.def_ 52 rfl
    f_law_wide := He.glo_ok X G (c.t.d.fact 48 (f := .glo "_law_wide") rfl)
    d_law_great := c.t.d.def_ 53 rfl
    f_law_great := He.glo_ok X G (c.t.d.fact 49 (f := .glo "_law_great") rfl)
    d_law_by_rows := c.t.d.def_ 54 rfl
    f_law_by_rows := He.glo_ok X G (c.t.d.fact 50 (f := .glo "_law_by_rows") rfl)
    d_law := c.t.d.def_ 55 rfl
    f_law := He.glo_ok X G (c.t.d.fact 51 (f := .glo "law") rfl)
    g_Twice := He.glo_ok X G (c.t.d.fact 52 (f := .glo "Twice") rfl)
    g_Hidden := He.glo_ok X G (c.t.d.fact 53 (f := .glo "Hidden") rfl)
    g_Stranger := He.glo_ok X G (c.t.d.fact 54 (f := .glo "Stranger") rfl)
    g_NoText := He.glo_ok X G (c.t.d.fact 55 (f := .glo "NoText") rfl)
    g_NoProgram := He.glo_ok X G (c.t.d.fact 56 (f := .glo "NoProgram") rfl)
    g_LazyError := He.glo_ok X G (c.t.d.fact 57 (f := .glo "LazyError") rfl)
    g_More := He.glo_ok X G (c.t.d.fact 58 (f := .glo "More") rfl)
    g_NoRow := He.glo_ok X G (c.t.d.fact 59 (f := .glo "NoRow") rfl)
    g_NoRows := He.glo_ok X G (c.t.d.fact 60 (f := .glo "NoRows") rfl)
    c_PartReader := He.cls_ok (c.t.d.fact 61 (f := .cls "PartReader") rfl)
    g_PartReader := He.glo_ok X G (c.t.d.fact 62 (f := .glo "PartReader") rfl)
    a_PartReader_row := He.noat_ok (c.t.d.fact 63 (f := .noat "PartReader" "row") rfl)
    a_PartReader_words := He.noat_ok (c.t.d.fact 64 (f := .noat "PartReader" "words") rfl)
    a_PartReader_at := He.noat_ok (c.t.d.fact 65 (f := .noat "PartReader" "at") rfl)
    a_PartReader_left := He.noat_ok (c.t.d.fact 66 (f := .noat "PartReader" "left") rfl)
    n_str := He.free_ok X G (c.t.d.fact 67 (f := .free "str") rfl)
    n_isinstance := He.free_ok X G (c.t.d.fact 68 (f := .free "isinstance") rfl)
    n_len := He.free_ok X G (c.t.d.fact 69 (f := .free "len") rfl)
    n_all := He.free_ok X G (c.t.d.fact 70 (f := .free "all") rfl)
    n_int := He.free_ok X G (c.t.d.fact 71 (f := .free "int") rfl)
    n_bool := He.free_ok X G (c.t.d.fact 72 (f := .free "bool") rfl)
    n_abs := He.free_ok X G (c.t.d.fact 73 (f := .free "abs") rfl)
    n_list := He.free_ok X G (c.t.d.fact 74 (f := .free "list") rfl)
    n_tuple := He.free_ok X G (c.t.d.fact 75 (f := .free "tuple") rfl)
    n_range := He.free_ok X G (c.t.d.fact 76 (f := .free "range") rfl)
    n_enumerate := He.free_ok X G (c.t.d.fact 77 (f := .free "enumerate") rfl)
    n_max := He.free_ok X G (c.t.d.fact 78 (f := .free "max") rfl)
    n_ValueError := He.free_ok X G (c.t.d.fact 79 (f := .free "ValueError") rfl)
    n_min := He.free_ok X G (c.t.d.fact 80 (f := .free "min") rfl)
    errs := hm.1.2
    errt := errT_ok hm.2
    v_LETTERS := (He.str_ok X G (c.t.d.fact 81 (f := .str "LETTERS" "abcdefghijklmnopqrstuvwxyz") rfl)).elim fun t e => ⟨_, e, t, rfl⟩
    g_PARTS := He.glo_ok X G (c.t.d.fact 82 (f := .glo "PARTS") rfl)
    k_PARTS := ktab_of (kvs := [("give", .int 2), ("plus", .int 2), ("less", .int 2), ("times", .int 2), ("below", .int 2), ("when", .int 3), ("pair", .int 2), ("left", .int 1), ("right", .int 1)]) (tab_at c.t 0 rfl) hm.1.1
    v_MOST_ROWS := (He.int_ok X G (c.t.d.fact 83 (f := .int "MOST_ROWS" 4) rfl)).elim fun t e => ⟨_, e, t, rfl⟩
    v_DEEPEST := (He.int_ok X G (c.t.d.fact 84 (f := .int "DEEPEST" 12) rfl)).elim fun t e => ⟨_, e, t, rfl⟩
    v_MOST_PARTS := (He.int_ok X G (c.t.d.fact 85 (f := .int "MOST_PARTS" 60) rfl)).elim fun t e => ⟨_, e, t, rfl⟩
    v_MOST_NAMES := (He.int_ok X G (c.t.d.fact 86 (f := .int "MOST_NAMES" 4) rfl)).elim fun t e => ⟨_, e, t, rfl⟩
    v_MOST_FUNCTIONS := (He.int_ok X G (c.t.d.fact 87 (f := .int "MOST_FUNCTIONS" 8) rfl)).elim fun t e => ⟨_, e, t, rfl⟩
    v_FIGURES := (He.str_ok X G (c.t.d.fact 88 (f := .str "FIGURES" "0123456789") rfl)).elim fun t e => ⟨_, e, t, rfl⟩
  }
section
variable {P : Program} {w : World} {K : PySem.W.Frag} {mg : Str → Option Value} {base : Heap}
theorem law_ok (T : TX w K mg) {fd : FuncData} (F : FunD K "law" "law" (defArgs (topS 66)) (defBody (topS 66)) (defScope (topS 66)) [] [] (He.ga K "law") fd) : FnOk P w K mg base CX0 38 (He.ga K "law") fd ["_law_script"] (spLaw K) := by
  have c_law_pen : Cal P w K mg base 1 "_law_pen" (spPen K) := mk_law_pen (j := 0) T  (pure_pen)
  have c_law_draw : Cal P w K mg base 1 "_law_draw" (spDraw) := mk_law_draw (j := 0) T  (pure_draw)
  have c_law_names : Cal P w K mg base 2 "_law_names" (spNames) := mk_law_names (j := 1) T (c_law_draw.mono (by decide)) (pure_names)
  have c_law_base : Cal P w K mg base 3 "_law_base" (spBase) := mk_law_base (j := 2) T (c_law_names.mono (by decide)) (c_law_draw.mono (by decide)) (pure_base)
  have c_law_wide_0 : Cal P w K mg base 1 "_law_wide" (spWide 0) := nv_law_wide T (fun vs H Q E ⟨_, _, h1, _, h2, _⟩ => by have h2 : _ < 1 := h2; omega)
  have c_law_wide_1 : Cal P w K mg base 2 "_law_wide" (spWide 1) := mk_law_wide (j := 1) T (c_law_wide_0.mono (by decide)) (pure_wide)
  have c_law_wide_2 : Cal P w K mg base 3 "_law_wide" (spWide 2) := mk_law_wide (j := 2) T (c_law_wide_1.mono (by decide)) (pure_wide)
  have c_law_wide_3 : Cal P w K mg base 4 "_law_wide" (spWide 3) := mk_law_wide (j := 3) T (c_law_wide_2.mono (by decide)) (pure_wide)
  have c_law_wide_4 : Cal P w K mg base 5 "_law_wide" (spWide 4) := mk_law_wide (j := 4) T (c_law_wide_3.mono (by decide)) (pure_wide)
  have c_law_wide_5 : Cal P w K mg base 6 "_law_wide" (spWide 5) := mk_law_wide (j := 5) T (c_law_wide_4.mono (by decide)) (pure_wide)
  have c_law_wide_6 : Cal P w K mg base 7 "_law_wide" (spWide 6) := mk_law_wide (j := 6) T (c_law_wide_5.mono (by decide)) (pure_wide)
  have c_law_wide_7 : Cal P w K mg base 8 "_law_wide" (spWide 7) := mk_law_wide (j := 7) T (c_law_wide_6.mono (by decide)) (pure_wide)
  have c_law_wide := c_law_wide_7
  have c_law_great : Cal P w K mg base 9 "_law_great" (spGreat) := mk_law_great (j := 8) T (c_law_draw.mono (by decide)) (c_law_wide.mono (by decide)) (pure_great)
  have c_law_by_rows : Cal P w K mg base 10 "_law_by_rows" (spByRows) := mk_law_by_rows (j := 9) T (c_law_draw.mono (by decide)) (c_law_great.mono (by decide)) (pure_byrows)
  have c_law_is_name : Cal P w K mg base 1 "_law_is_name" (spIsNameX) := mk_law_is_name (j := 0) T  (pure_lnameX)
  have c_law_marked : Cal P w K mg base 2 "_law_marked" (spIsMark) := mk_law_marked (j := 1) T (c_law_is_name.mono (by decide)) (pure_lmarked)
  have c_law_figures : Cal P w K mg base 1 "_law_figures" (spIsFigs) := mk_law_figures (j := 0) T  (pure_lfigures)
  have c_law_part_wrong : Cal P w K mg base 3 "_law_part_wrong" (spPartWrong) := mk_law_part_wrong (j := 2) T (c_law_marked.mono (by decide)) (c_law_figures.mono (by decide)) (pure_partwrong)
  have c_law_row_wrong : Cal P w K mg base 4 "_law_row_wrong" (spRowWrong) := mk_law_row_wrong (j := 3) T (c_law_is_name.mono (by decide)) (c_law_marked.mono (by decide)) (c_law_part_wrong.mono (by decide)) (pure_rowwrong)
  have c_law_built_0 : Cal P w K mg base 1 "_law_built" (spBuilt 0) := nv_law_built T (fun vs H Q E ⟨_, _, _, _, _, _, _, _, _, _, _, _, _, _, _, h, _⟩ => absurd h (Nat.not_lt_zero _))
  have c_law_built_1 : Cal P w K mg base 2 "_law_built" (spBuilt 1) := mk_law_built (j := 1) T (c_law_figures.mono (by decide)) (c_law_built_0.mono (by decide)) (pure_built)
  have c_law_built_2 : Cal P w K mg base 3 "_law_built" (spBuilt 2) := mk_law_built (j := 2) T (c_law_figures.mono (by decide)) (c_law_built_1.mono (by decide)) (pure_built)
  have c_law_built_3 : Cal P w K mg base 4 "_law_built" (spBuilt 3) := mk_law_built (j := 3) T (c_law_figures.mono (by decide)) (c_law_built_2.mono (by decide)) (pure_built)
  have c_law_built_4 : Cal P w K mg base 5 "_law_built" (spBuilt 4) := mk_law_built (j := 4) T (c_law_figures.mono (by decide)) (c_law_built_3.mono (by decide)) (pure_built)
  have c_law_built_5 : Cal P w K mg base 6 "_law_built" (spBuilt 5) := mk_law_built (j := 5) T (c_law_figures.mono (by decide)) (c_law_built_4.mono (by decide)) (pure_built)
  have c_law_built_6 : Cal P w K mg base 7 "_law_built" (spBuilt 6) := mk_law_built (j := 6) T (c_law_figures.mono (by decide)) (c_law_built_5.mono (by decide)) (pure_built)
  have c_law_built_7 : Cal P w K mg base 8 "_law_built" (spBuilt 7) := mk_law_built (j := 7) T (c_law_figures.mono (by decide)) (c_law_built_6.mono (by decide)) (pure_built)
  have c_law_built_8 : Cal P w K mg base 9 "_law_built" (spBuilt 8) := mk_law_built (j := 8) T (c_law_figures.mono (by decide)) (c_law_built_7.mono (by decide)) (pure_built)
  have c_law_built_9 : Cal P w K mg base 10 "_law_built" (spBuilt 9) := mk_law_built (j := 9) T (c_law_figures.mono (by decide)) (c_law_built_8.mono (by decide)) (pure_built)
  have c_law_built_10 : Cal P w K mg base 11 "_law_built" (spBuilt 10) := mk_law_built (j := 10) T (c_law_figures.mono (by decide)) (c_law_built_9.mono (by decide)) (pure_built)
  have c_law_built_11 : Cal P w K mg base 12 "_law_built" (spBuilt 11) := mk_law_built (j := 11) T (c_law_figures.mono (by decide)) (c_law_built_10.mono (by decide)) (pure_built)
  have c_law_built_12 : Cal P w K mg base 13 "_law_built" (spBuilt 12) := mk_law_built (j := 12) T (c_law_figures.mono (by decide)) (c_law_built_11.mono (by decide)) (pure_built)
  have c_law_built_13 : Cal P w K mg base 14 "_law_built" (spBuilt 13) := mk_law_built (j := 13) T (c_law_figures.mono (by decide)) (c_law_built_12.mono (by decide)) (pure_built)
  have c_law_built := c_law_built_13
  have c_law_read : Cal P w K mg base 15 "_law_read" (spLawRead) := mk_law_read (j := 14) T (c_law_part_wrong.mono (by decide)) (c_law_row_wrong.mono (by decide)) (c_law_built.mono (by decide)) (pure_lawread)
  have c_law_inner : Cal P w K mg base 2 "_law_inner" (spPartsOfX) := mk_law_inner (j := 1) T (c_law_is_name.mono (by decide)) (pure_linnerX)
  have c_law_is_body : Cal P w K mg base 3 "_law_is_body" (spIsBodyX) := mk_law_is_body (j := 2) T (c_law_inner.mono (by decide)) (pure_lisbodyX)
  have c_law_is_function : Cal P w K mg base 4 "_law_is_function" (spIsFunctionX) := mk_law_is_function (j := 3) T (c_law_is_name.mono (by decide)) (c_law_is_body.mono (by decide)) (pure_lisfunctionX)
  have c_law_lets_0 : Cal P w K mg base 1 "_law_lets" (spLets 0) := nv_law_lets T (fun vs H Q E ⟨_, p, _, _, _, h, _⟩ => by have := p.mxd_kids; omega)
  have c_law_lets_1 : Cal P w K mg base 3 "_law_lets" (spLets 1) := mk_law_lets (j := 2) T (c_law_inner.mono (by decide)) (c_law_lets_0.mono (by decide)) (pure_lets)
  have c_law_lets_2 : Cal P w K mg base 4 "_law_lets" (spLets 2) := mk_law_lets (j := 3) T (c_law_inner.mono (by decide)) (c_law_lets_1.mono (by decide)) (pure_lets)
  have c_law_lets_3 : Cal P w K mg base 5 "_law_lets" (spLets 3) := mk_law_lets (j := 4) T (c_law_inner.mono (by decide)) (c_law_lets_2.mono (by decide)) (pure_lets)
  have c_law_lets_4 : Cal P w K mg base 6 "_law_lets" (spLets 4) := mk_law_lets (j := 5) T (c_law_inner.mono (by decide)) (c_law_lets_3.mono (by decide)) (pure_lets)
  have c_law_lets_5 : Cal P w K mg base 7 "_law_lets" (spLets 5) := mk_law_lets (j := 6) T (c_law_inner.mono (by decide)) (c_law_lets_4.mono (by decide)) (pure_lets)
  have c_law_lets_6 : Cal P w K mg base 8 "_law_lets" (spLets 6) := mk_law_lets (j := 7) T (c_law_inner.mono (by decide)) (c_law_lets_5.mono (by decide)) (pure_lets)
  have c_law_lets_7 : Cal P w K mg base 9 "_law_lets" (spLets 7) := mk_law_lets (j := 8) T (c_law_inner.mono (by decide)) (c_law_lets_6.mono (by decide)) (pure_lets)
  have c_law_lets_8 : Cal P w K mg base 10 "_law_lets" (spLets 8) := mk_law_lets (j := 9) T (c_law_inner.mono (by decide)) (c_law_lets_7.mono (by decide)) (pure_lets)
  have c_law_lets_9 : Cal P w K mg base 11 "_law_lets" (spLets 9) := mk_law_lets (j := 10) T (c_law_inner.mono (by decide)) (c_law_lets_8.mono (by decide)) (pure_lets)
  have c_law_lets_10 : Cal P w K mg base 12 "_law_lets" (spLets 10) := mk_law_lets (j := 11) T (c_law_inner.mono (by decide)) (c_law_lets_9.mono (by decide)) (pure_lets)
  have c_law_lets_11 : Cal P w K mg base 13 "_law_lets" (spLets 11) := mk_law_lets (j := 12) T (c_law_inner.mono (by decide)) (c_law_lets_10.mono (by decide)) (pure_lets)
  have c_law_lets_12 : Cal P w K mg base 14 "_law_lets" (spLets 12) := mk_law_lets (j := 13) T (c_law_inner.mono (by decide)) (c_law_lets_11.mono (by decide)) (pure_lets)
  have c_law_lets := c_law_lets_12
  have c_law_strange_0 : Cal P w K mg base 1 "_law_strange" (spStrange 0) := nv_law_strange T (fun vs H Q E ⟨_, _, _, p, _, _, _, _, _, h, _⟩ => by have := p.mxd_kids; omega)
  have c_law_strange_1 : Cal P w K mg base 3 "_law_strange" (spStrange 1) := mk_law_strange (j := 2) T (c_law_inner.mono (by decide)) (c_law_strange_0.mono (by decide)) (pure_strange)
  have c_law_strange_2 : Cal P w K mg base 4 "_law_strange" (spStrange 2) := mk_law_strange (j := 3) T (c_law_inner.mono (by decide)) (c_law_strange_1.mono (by decide)) (pure_strange)
  have c_law_strange_3 : Cal P w K mg base 5 "_law_strange" (spStrange 3) := mk_law_strange (j := 4) T (c_law_inner.mono (by decide)) (c_law_strange_2.mono (by decide)) (pure_strange)
  have c_law_strange_4 : Cal P w K mg base 6 "_law_strange" (spStrange 4) := mk_law_strange (j := 5) T (c_law_inner.mono (by decide)) (c_law_strange_3.mono (by decide)) (pure_strange)
  have c_law_strange_5 : Cal P w K mg base 7 "_law_strange" (spStrange 5) := mk_law_strange (j := 6) T (c_law_inner.mono (by decide)) (c_law_strange_4.mono (by decide)) (pure_strange)
  have c_law_strange_6 : Cal P w K mg base 8 "_law_strange" (spStrange 6) := mk_law_strange (j := 7) T (c_law_inner.mono (by decide)) (c_law_strange_5.mono (by decide)) (pure_strange)
  have c_law_strange_7 : Cal P w K mg base 9 "_law_strange" (spStrange 7) := mk_law_strange (j := 8) T (c_law_inner.mono (by decide)) (c_law_strange_6.mono (by decide)) (pure_strange)
  have c_law_strange_8 : Cal P w K mg base 10 "_law_strange" (spStrange 8) := mk_law_strange (j := 9) T (c_law_inner.mono (by decide)) (c_law_strange_7.mono (by decide)) (pure_strange)
  have c_law_strange_9 : Cal P w K mg base 11 "_law_strange" (spStrange 9) := mk_law_strange (j := 10) T (c_law_inner.mono (by decide)) (c_law_strange_8.mono (by decide)) (pure_strange)
  have c_law_strange_10 : Cal P w K mg base 12 "_law_strange" (spStrange 10) := mk_law_strange (j := 11) T (c_law_inner.mono (by decide)) (c_law_strange_9.mono (by decide)) (pure_strange)
  have c_law_strange_11 : Cal P w K mg base 13 "_law_strange" (spStrange 11) := mk_law_strange (j := 12) T (c_law_inner.mono (by decide)) (c_law_strange_10.mono (by decide)) (pure_strange)
  have c_law_strange_12 : Cal P w K mg base 14 "_law_strange" (spStrange 12) := mk_law_strange (j := 13) T (c_law_inner.mono (by decide)) (c_law_strange_11.mono (by decide)) (pure_strange)
  have c_law_strange := c_law_strange_12
  have c_law_due : Cal P w K mg base 15 "_law_due" (spToldX) := mk_law_due (j := 14) T (c_law_is_function.mono (by decide)) (c_law_is_body.mono (by decide)) (c_law_lets.mono (by decide)) (c_law_strange.mono (by decide)) (pure_due)
  have c_NoText___init__ : Xal P w K mg base 2 "NoText" (He.ga K "NoText") (spXInit2 K (He.ga K "NoText") "row" "word") := mk_NoText___init__ (j := 0) T  (init2 T.errt.o_NoText T.errt.row T.errt.word)
  have c_PartReader___init__ : KCal P w K mg base 2 "PartReader" (He.ga K "PartReader") (spRInit K) := mk_PartReader___init__ (j := 0) T  (pure_rinit ⟨T.c_PartReader, T.a_PartReader_row, T.a_PartReader_words, T.a_PartReader_at, T.a_PartReader_left⟩)
  have c_PartReader_refuse : MCalX P w K mg base 3 (He.ga K "PartReader") "refuse" (spRefX K) := mk_PartReader_refuse (j := 2) T (c_NoText___init__.mono (by decide)) (pure_refX ⟨T.c_PartReader, T.a_PartReader_row, T.a_PartReader_words, T.a_PartReader_at, T.a_PartReader_left⟩)
  have c_PartReader_now : MCalX P w K mg base 4 (He.ga K "PartReader") "now" (spNowX K) := mk_PartReader_now (j := 3) T (c_PartReader_refuse.mono (by decide)) (pure_nowX ⟨T.c_PartReader, T.a_PartReader_row, T.a_PartReader_words, T.a_PartReader_at, T.a_PartReader_left⟩)
  have c_is_name : Cal P w K mg base 1 "is_name" (spIsNameX) := mk_is_name (j := 0) T  (pure_isnameX)
  have c_is_name_spIsNameG : Cal P w K mg base 1 "is_name" (spIsNameG) := mk_is_name (j := 0) T  (pure_isnameG)
  have c_is_marked : Cal P w K mg base 2 "is_marked" (spIsMark) := mk_is_marked (j := 1) T (c_is_name_spIsNameG.mono (by decide)) (pure_ismark)
  have c_PartReader_mark : MCalX P w K mg base 5 (He.ga K "PartReader") "mark" (spMarkX K) := mk_PartReader_mark (j := 4) T (c_PartReader_now.mono (by decide)) (c_is_marked.mono (by decide)) (c_PartReader_refuse.mono (by decide)) (pure_markX ⟨T.c_PartReader, T.a_PartReader_row, T.a_PartReader_words, T.a_PartReader_at, T.a_PartReader_left⟩)
  have c_is_figures : Cal P w K mg base 1 "is_figures" (spIsFigs) := mk_is_figures (j := 0) T  (pure_isfigs)
  have c_PartReader_begin : MCalX P w K mg base 5 (He.ga K "PartReader") "begin" (spBeginX K) := mk_PartReader_begin (j := 4) T (c_PartReader_now.mono (by decide)) (c_is_figures.mono (by decide)) (c_is_marked.mono (by decide)) (c_PartReader_refuse.mono (by decide)) (pure_beginX T.k_PARTS ⟨T.c_PartReader, T.a_PartReader_row, T.a_PartReader_words, T.a_PartReader_at, T.a_PartReader_left⟩)
  have c_PartReader_part_0 : MCalX P w K mg base 1 (He.ga K "PartReader") "part" (spPartX K 0) := nv_PartReader_part T (fun vs H Q E ⟨_, _, _, _, _, _, _, _, _, _, _, _, _, _, h, _⟩ => absurd h (Nat.not_lt_zero _))
  have c_PartReader_let_rows_1 : MCalX P w K mg base 6 (He.ga K "PartReader") "let_rows" (spRowsX K 0) := mk_PartReader_let_rows (j := 5) T (c_PartReader_now.mono (by decide)) (c_PartReader_refuse.mono (by decide)) (c_PartReader_mark.mono (by decide)) (c_PartReader_part_0.mono (by decide)) (pure_rowsX ⟨T.c_PartReader, T.a_PartReader_row, T.a_PartReader_words, T.a_PartReader_at, T.a_PartReader_left⟩)
  have c_PartReader_part_1 : MCalX P w K mg base 7 (He.ga K "PartReader") "part" (spPartX K 1) := mk_PartReader_part (j := 6) T (c_PartReader_begin.mono (by decide)) (c_PartReader_part_0.mono (by decide)) (c_PartReader_let_rows_1.mono (by decide)) (pure_partX T.k_PARTS ⟨T.c_PartReader, T.a_PartReader_row, T.a_PartReader_words, T.a_PartReader_at, T.a_PartReader_left⟩)
  have c_PartReader_let_rows_2 : MCalX P w K mg base 8 (He.ga K "PartReader") "let_rows" (spRowsX K 1) := mk_PartReader_let_rows (j := 7) T (c_PartReader_now.mono (by decide)) (c_PartReader_refuse.mono (by decide)) (c_PartReader_mark.mono (by decide)) (c_PartReader_part_1.mono (by decide)) (pure_rowsX ⟨T.c_PartReader, T.a_PartReader_row, T.a_PartReader_words, T.a_PartReader_at, T.a_PartReader_left⟩)
  have c_PartReader_part_2 : MCalX P w K mg base 9 (He.ga K "PartReader") "part" (spPartX K 2) := mk_PartReader_part (j := 8) T (c_PartReader_begin.mono (by decide)) (c_PartReader_part_1.mono (by decide)) (c_PartReader_let_rows_2.mono (by decide)) (pure_partX T.k_PARTS ⟨T.c_PartReader, T.a_PartReader_row, T.a_PartReader_words, T.a_PartReader_at, T.a_PartReader_left⟩)
  have c_PartReader_let_rows_3 : MCalX P w K mg base 10 (He.ga K "PartReader") "let_rows" (spRowsX K 2) := mk_PartReader_let_rows (j := 9) T (c_PartReader_now.mono (by decide)) (c_PartReader_refuse.mono (by decide)) (c_PartReader_mark.mono (by decide)) (c_PartReader_part_2.mono (by decide)) (pure_rowsX ⟨T.c_PartReader, T.a_PartReader_row, T.a_PartReader_words, T.a_PartReader_at, T.a_PartReader_left⟩)
  have c_PartReader_part_3 : MCalX P w K mg base 11 (He.ga K "PartReader") "part" (spPartX K 3) := mk_PartReader_part (j := 10) T (c_PartReader_begin.mono (by decide)) (c_PartReader_part_2.mono (by decide)) (c_PartReader_let_rows_3.mono (by decide)) (pure_partX T.k_PARTS ⟨T.c_PartReader, T.a_PartReader_row, T.a_PartReader_words, T.a_PartReader_at, T.a_PartReader_left⟩)
  have c_PartReader_let_rows_4 : MCalX P w K mg base 12 (He.ga K "PartReader") "let_rows" (spRowsX K 3) := mk_PartReader_let_rows (j := 11) T (c_PartReader_now.mono (by decide)) (c_PartReader_refuse.mono (by decide)) (c_PartReader_mark.mono (by decide)) (c_PartReader_part_3.mono (by decide)) (pure_rowsX ⟨T.c_PartReader, T.a_PartReader_row, T.a_PartReader_words, T.a_PartReader_at, T.a_PartReader_left⟩)
  have c_PartReader_part_4 : MCalX P w K mg base 13 (He.ga K "PartReader") "part" (spPartX K 4) := mk_PartReader_part (j := 12) T (c_PartReader_begin.mono (by decide)) (c_PartReader_part_3.mono (by decide)) (c_PartReader_let_rows_4.mono (by decide)) (pure_partX T.k_PARTS ⟨T.c_PartReader, T.a_PartReader_row, T.a_PartReader_words, T.a_PartReader_at, T.a_PartReader_left⟩)
  have c_PartReader_let_rows_5 : MCalX P w K mg base 14 (He.ga K "PartReader") "let_rows" (spRowsX K 4) := mk_PartReader_let_rows (j := 13) T (c_PartReader_now.mono (by decide)) (c_PartReader_refuse.mono (by decide)) (c_PartReader_mark.mono (by decide)) (c_PartReader_part_4.mono (by decide)) (pure_rowsX ⟨T.c_PartReader, T.a_PartReader_row, T.a_PartReader_words, T.a_PartReader_at, T.a_PartReader_left⟩)
  have c_PartReader_part_5 : MCalX P w K mg base 15 (He.ga K "PartReader") "part" (spPartX K 5) := mk_PartReader_part (j := 14) T (c_PartReader_begin.mono (by decide)) (c_PartReader_part_4.mono (by decide)) (c_PartReader_let_rows_5.mono (by decide)) (pure_partX T.k_PARTS ⟨T.c_PartReader, T.a_PartReader_row, T.a_PartReader_words, T.a_PartReader_at, T.a_PartReader_left⟩)
  have c_PartReader_let_rows_6 : MCalX P w K mg base 16 (He.ga K "PartReader") "let_rows" (spRowsX K 5) := mk_PartReader_let_rows (j := 15) T (c_PartReader_now.mono (by decide)) (c_PartReader_refuse.mono (by decide)) (c_PartReader_mark.mono (by decide)) (c_PartReader_part_5.mono (by decide)) (pure_rowsX ⟨T.c_PartReader, T.a_PartReader_row, T.a_PartReader_words, T.a_PartReader_at, T.a_PartReader_left⟩)
  have c_PartReader_part_6 : MCalX P w K mg base 17 (He.ga K "PartReader") "part" (spPartX K 6) := mk_PartReader_part (j := 16) T (c_PartReader_begin.mono (by decide)) (c_PartReader_part_5.mono (by decide)) (c_PartReader_let_rows_6.mono (by decide)) (pure_partX T.k_PARTS ⟨T.c_PartReader, T.a_PartReader_row, T.a_PartReader_words, T.a_PartReader_at, T.a_PartReader_left⟩)
  have c_PartReader_let_rows_7 : MCalX P w K mg base 18 (He.ga K "PartReader") "let_rows" (spRowsX K 6) := mk_PartReader_let_rows (j := 17) T (c_PartReader_now.mono (by decide)) (c_PartReader_refuse.mono (by decide)) (c_PartReader_mark.mono (by decide)) (c_PartReader_part_6.mono (by decide)) (pure_rowsX ⟨T.c_PartReader, T.a_PartReader_row, T.a_PartReader_words, T.a_PartReader_at, T.a_PartReader_left⟩)
  have c_PartReader_part_7 : MCalX P w K mg base 19 (He.ga K "PartReader") "part" (spPartX K 7) := mk_PartReader_part (j := 18) T (c_PartReader_begin.mono (by decide)) (c_PartReader_part_6.mono (by decide)) (c_PartReader_let_rows_7.mono (by decide)) (pure_partX T.k_PARTS ⟨T.c_PartReader, T.a_PartReader_row, T.a_PartReader_words, T.a_PartReader_at, T.a_PartReader_left⟩)
  have c_PartReader_let_rows_8 : MCalX P w K mg base 20 (He.ga K "PartReader") "let_rows" (spRowsX K 7) := mk_PartReader_let_rows (j := 19) T (c_PartReader_now.mono (by decide)) (c_PartReader_refuse.mono (by decide)) (c_PartReader_mark.mono (by decide)) (c_PartReader_part_7.mono (by decide)) (pure_rowsX ⟨T.c_PartReader, T.a_PartReader_row, T.a_PartReader_words, T.a_PartReader_at, T.a_PartReader_left⟩)
  have c_PartReader_part_8 : MCalX P w K mg base 21 (He.ga K "PartReader") "part" (spPartX K 8) := mk_PartReader_part (j := 20) T (c_PartReader_begin.mono (by decide)) (c_PartReader_part_7.mono (by decide)) (c_PartReader_let_rows_8.mono (by decide)) (pure_partX T.k_PARTS ⟨T.c_PartReader, T.a_PartReader_row, T.a_PartReader_words, T.a_PartReader_at, T.a_PartReader_left⟩)
  have c_PartReader_let_rows_9 : MCalX P w K mg base 22 (He.ga K "PartReader") "let_rows" (spRowsX K 8) := mk_PartReader_let_rows (j := 21) T (c_PartReader_now.mono (by decide)) (c_PartReader_refuse.mono (by decide)) (c_PartReader_mark.mono (by decide)) (c_PartReader_part_8.mono (by decide)) (pure_rowsX ⟨T.c_PartReader, T.a_PartReader_row, T.a_PartReader_words, T.a_PartReader_at, T.a_PartReader_left⟩)
  have c_PartReader_part_9 : MCalX P w K mg base 23 (He.ga K "PartReader") "part" (spPartX K 9) := mk_PartReader_part (j := 22) T (c_PartReader_begin.mono (by decide)) (c_PartReader_part_8.mono (by decide)) (c_PartReader_let_rows_9.mono (by decide)) (pure_partX T.k_PARTS ⟨T.c_PartReader, T.a_PartReader_row, T.a_PartReader_words, T.a_PartReader_at, T.a_PartReader_left⟩)
  have c_PartReader_let_rows_10 : MCalX P w K mg base 24 (He.ga K "PartReader") "let_rows" (spRowsX K 9) := mk_PartReader_let_rows (j := 23) T (c_PartReader_now.mono (by decide)) (c_PartReader_refuse.mono (by decide)) (c_PartReader_mark.mono (by decide)) (c_PartReader_part_9.mono (by decide)) (pure_rowsX ⟨T.c_PartReader, T.a_PartReader_row, T.a_PartReader_words, T.a_PartReader_at, T.a_PartReader_left⟩)
  have c_PartReader_part_10 : MCalX P w K mg base 25 (He.ga K "PartReader") "part" (spPartX K 10) := mk_PartReader_part (j := 24) T (c_PartReader_begin.mono (by decide)) (c_PartReader_part_9.mono (by decide)) (c_PartReader_let_rows_10.mono (by decide)) (pure_partX T.k_PARTS ⟨T.c_PartReader, T.a_PartReader_row, T.a_PartReader_words, T.a_PartReader_at, T.a_PartReader_left⟩)
  have c_PartReader_let_rows_11 : MCalX P w K mg base 26 (He.ga K "PartReader") "let_rows" (spRowsX K 10) := mk_PartReader_let_rows (j := 25) T (c_PartReader_now.mono (by decide)) (c_PartReader_refuse.mono (by decide)) (c_PartReader_mark.mono (by decide)) (c_PartReader_part_10.mono (by decide)) (pure_rowsX ⟨T.c_PartReader, T.a_PartReader_row, T.a_PartReader_words, T.a_PartReader_at, T.a_PartReader_left⟩)
  have c_PartReader_part_11 : MCalX P w K mg base 27 (He.ga K "PartReader") "part" (spPartX K 11) := mk_PartReader_part (j := 26) T (c_PartReader_begin.mono (by decide)) (c_PartReader_part_10.mono (by decide)) (c_PartReader_let_rows_11.mono (by decide)) (pure_partX T.k_PARTS ⟨T.c_PartReader, T.a_PartReader_row, T.a_PartReader_words, T.a_PartReader_at, T.a_PartReader_left⟩)
  have c_PartReader_let_rows_12 : MCalX P w K mg base 28 (He.ga K "PartReader") "let_rows" (spRowsX K 11) := mk_PartReader_let_rows (j := 27) T (c_PartReader_now.mono (by decide)) (c_PartReader_refuse.mono (by decide)) (c_PartReader_mark.mono (by decide)) (c_PartReader_part_11.mono (by decide)) (pure_rowsX ⟨T.c_PartReader, T.a_PartReader_row, T.a_PartReader_words, T.a_PartReader_at, T.a_PartReader_left⟩)
  have c_PartReader_part_12 : MCalX P w K mg base 29 (He.ga K "PartReader") "part" (spPartX K 12) := mk_PartReader_part (j := 28) T (c_PartReader_begin.mono (by decide)) (c_PartReader_part_11.mono (by decide)) (c_PartReader_let_rows_12.mono (by decide)) (pure_partX T.k_PARTS ⟨T.c_PartReader, T.a_PartReader_row, T.a_PartReader_words, T.a_PartReader_at, T.a_PartReader_left⟩)
  have c_PartReader_let_rows_13 : MCalX P w K mg base 30 (He.ga K "PartReader") "let_rows" (spRowsX K 12) := mk_PartReader_let_rows (j := 29) T (c_PartReader_now.mono (by decide)) (c_PartReader_refuse.mono (by decide)) (c_PartReader_mark.mono (by decide)) (c_PartReader_part_12.mono (by decide)) (pure_rowsX ⟨T.c_PartReader, T.a_PartReader_row, T.a_PartReader_words, T.a_PartReader_at, T.a_PartReader_left⟩)
  have c_PartReader_part_13 : MCalX P w K mg base 31 (He.ga K "PartReader") "part" (spPartX K 13) := mk_PartReader_part (j := 30) T (c_PartReader_begin.mono (by decide)) (c_PartReader_part_12.mono (by decide)) (c_PartReader_let_rows_13.mono (by decide)) (pure_partX T.k_PARTS ⟨T.c_PartReader, T.a_PartReader_row, T.a_PartReader_words, T.a_PartReader_at, T.a_PartReader_left⟩)
  have c_PartReader_let_rows := c_PartReader_let_rows_13
  have c_PartReader_part := c_PartReader_part_13
  have c_PartReader_whole : MCalX P w K mg base 32 (He.ga K "PartReader") "whole" (spWholeX K) := mk_PartReader_whole (j := 31) T (c_PartReader_part.mono (by decide)) (c_PartReader_refuse.mono (by decide)) (pure_wholeX ⟨T.c_PartReader, T.a_PartReader_row, T.a_PartReader_words, T.a_PartReader_at, T.a_PartReader_left⟩)
  have c_read_part : CalX P w K mg base 33 "read_part" (spReadPartX K) := mk_read_part (j := 32) T (c_PartReader___init__.mono (by decide)) (c_PartReader_whole.mono (by decide)) (pure_readpartX)
  have c_read_function : CalX P w K mg base 34 "read_function" (spReadFnX K) := mk_read_function (j := 33) T (c_is_name_spIsNameG.mono (by decide)) (c_NoText___init__.mono (by decide)) (c_is_marked.mono (by decide)) (c_read_part.mono (by decide)) (pure_readfnX)
  have c_is_whole : Cal P w K mg base 1 "is_whole" (spIsWholeX) := mk_is_whole (j := 0) T  (pure_iswholeX)
  have c_is_small : Cal P w K mg base 1 "is_small" (spIsSmallX) := mk_is_small (j := 0) T  (pure_issmallX)
  have c_is_row : Cal P w K mg base 2 "is_row" (spIsRowX) := mk_is_row (j := 1) T (c_is_name.mono (by decide)) (pure_isrowX)
  have c_are_rows : Cal P w K mg base 3 "are_rows" (spAreRowsX) := mk_are_rows (j := 2) T (c_is_row.mono (by decide)) (pure_arerowsX)
  have c_parts_of : Cal P w K mg base 4 "parts_of" (spPartsOfX) := mk_parts_of (j := 3) T (c_is_whole.mono (by decide)) (c_is_small.mono (by decide)) (c_is_name.mono (by decide)) (c_are_rows.mono (by decide)) (pure_partsofX T.k_PARTS)
  have c_is_body : Cal P w K mg base 5 "is_body" (spIsBodyX) := mk_is_body (j := 4) T (c_parts_of.mono (by decide)) (pure_isbodyX)
  have c_is_function : Cal P w K mg base 6 "is_function" (spIsFunctionX) := mk_is_function (j := 5) T (c_is_name.mono (by decide)) (c_is_body.mono (by decide)) (pure_isfunctionX)
  have c_is_built : Cal P w K mg base 7 "is_built" (spIsBuiltX) := mk_is_built (j := 6) T (c_is_function.mono (by decide)) (c_is_body.mono (by decide)) (pure_isbuiltX)
  have c_Twice___init__ : Xal P w K mg base 2 "Twice" (He.ga K "Twice") (spXInit K (He.ga K "Twice") "name") := mk_Twice___init__ (j := 0) T  (pure_initTwice T.errs)
  have c_Hidden___init__ : Xal P w K mg base 2 "Hidden" (He.ga K "Hidden") (spXInit K (He.ga K "Hidden") "name") := mk_Hidden___init__ (j := 0) T  (pure_initHidden T.errs)
  have c_look_unlike : CalX P w K mg base 3 "look_unlike" (spUnlikeX K) := mk_look_unlike (j := 2) T (c_Hidden___init__.mono (by decide)) (pure_unlikeX)
  have c_within : Cal P w K mg base 1 "within" (spKids) := mk_within (j := 0) T  (pure_within T.k_PARTS)
  have c_in_order : Cal P w K mg base 2 "in_order" (spOrder) := mk_in_order (j := 1) T (c_within.mono (by decide)) (pure_order)
  have c_row_names : Cal P w K mg base 3 "row_names" (spRowNames) := mk_row_names (j := 2) T (c_in_order.mono (by decide)) (pure_rownames)
  have c_Stranger___init__ : Xal P w K mg base 2 "Stranger" (He.ga K "Stranger") (spXInit K (He.ga K "Stranger") "name") := mk_Stranger___init__ (j := 0) T  (pure_initStranger T.errs)
  have c_look_named_0 : CalX P w K mg base 1 "look_named" (spNamedX K 0) := nv_look_named T (fun vs H Q E ⟨_, _, _, p, _, _, _, _, _, h, _⟩ => by have := p.mxd_kids; omega)
  have c_look_named_1 : CalX P w K mg base 3 "look_named" (spNamedX K 1) := mk_look_named (j := 2) T (c_Stranger___init__.mono (by decide)) (c_look_named_0.mono (by decide)) (pure_namedX T.k_PARTS)
  have c_look_named_2 : CalX P w K mg base 4 "look_named" (spNamedX K 2) := mk_look_named (j := 3) T (c_Stranger___init__.mono (by decide)) (c_look_named_1.mono (by decide)) (pure_namedX T.k_PARTS)
  have c_look_named_3 : CalX P w K mg base 5 "look_named" (spNamedX K 3) := mk_look_named (j := 4) T (c_Stranger___init__.mono (by decide)) (c_look_named_2.mono (by decide)) (pure_namedX T.k_PARTS)
  have c_look_named_4 : CalX P w K mg base 6 "look_named" (spNamedX K 4) := mk_look_named (j := 5) T (c_Stranger___init__.mono (by decide)) (c_look_named_3.mono (by decide)) (pure_namedX T.k_PARTS)
  have c_look_named_5 : CalX P w K mg base 7 "look_named" (spNamedX K 5) := mk_look_named (j := 6) T (c_Stranger___init__.mono (by decide)) (c_look_named_4.mono (by decide)) (pure_namedX T.k_PARTS)
  have c_look_named_6 : CalX P w K mg base 8 "look_named" (spNamedX K 6) := mk_look_named (j := 7) T (c_Stranger___init__.mono (by decide)) (c_look_named_5.mono (by decide)) (pure_namedX T.k_PARTS)
  have c_look_named_7 : CalX P w K mg base 9 "look_named" (spNamedX K 7) := mk_look_named (j := 8) T (c_Stranger___init__.mono (by decide)) (c_look_named_6.mono (by decide)) (pure_namedX T.k_PARTS)
  have c_look_named_8 : CalX P w K mg base 10 "look_named" (spNamedX K 8) := mk_look_named (j := 9) T (c_Stranger___init__.mono (by decide)) (c_look_named_7.mono (by decide)) (pure_namedX T.k_PARTS)
  have c_look_named_9 : CalX P w K mg base 11 "look_named" (spNamedX K 9) := mk_look_named (j := 10) T (c_Stranger___init__.mono (by decide)) (c_look_named_8.mono (by decide)) (pure_namedX T.k_PARTS)
  have c_look_named_10 : CalX P w K mg base 12 "look_named" (spNamedX K 10) := mk_look_named (j := 11) T (c_Stranger___init__.mono (by decide)) (c_look_named_9.mono (by decide)) (pure_namedX T.k_PARTS)
  have c_look_named_11 : CalX P w K mg base 13 "look_named" (spNamedX K 11) := mk_look_named (j := 12) T (c_Stranger___init__.mono (by decide)) (c_look_named_10.mono (by decide)) (pure_namedX T.k_PARTS)
  have c_look_named_12 : CalX P w K mg base 14 "look_named" (spNamedX K 12) := mk_look_named (j := 13) T (c_Stranger___init__.mono (by decide)) (c_look_named_11.mono (by decide)) (pure_namedX T.k_PARTS)
  have c_look_named := c_look_named_12
  have c_looked : CalX P w K mg base 15 "looked" (spLookedX K) := mk_looked (j := 14) T (c_is_built.mono (by decide)) (c_Twice___init__.mono (by decide)) (c_look_unlike.mono (by decide)) (c_row_names.mono (by decide)) (c_look_named.mono (by decide)) (pure_lookedX)
  have c_read : CalX P w K mg base 35 "read" (spReadTX K) := mk_read (j := 34) T (c_NoText___init__.mono (by decide)) (c_read_part.mono (by decide)) (c_read_function.mono (by decide)) (c_looked.mono (by decide)) (pure_readTX)
  have c_law_reads : Cal P w K mg base 36 "_law_reads" (spReads) := mk_law_reads (j := 35) T (c_read.mono (by decide)) (pure_reads T.errs T.errt)
  have c_law_right : Cal P w K mg base 37 "_law_right" (spRightX) := mk_law_right (j := 36) T (c_law_read.mono (by decide)) (c_law_due.mono (by decide)) (c_law_reads.mono (by decide)) (pure_right)
  have c_law_text : Cal P w K mg base 1 "_law_text" (spTextW) := mk_law_text (j := 0) T  (pure_textW)
  exact mkl_law (j := 37) F T (c_law_pen.mono (by decide)) (c_law_base.mono (by decide)) (c_law_by_rows.mono (by decide)) (c_law_draw.mono (by decide)) (c_law_right.mono (by decide)) (c_law_text.mono (by decide)) (pure_law)
end
end Lz
open PySem PySem.W PySem.Calls PyProof.Rows
theorem PySem.Challenge.cw_lazywebs_k73_texts_at_their_bounds_holds : PySem.Challenge.rw_lazywebs_k73_texts_at_their_bounds.Holds := by
  w_on; o_law
  refine HandSHeadRun.head_any (r := OpenLaw.row PySem.Challenge.rw_lazywebs_k73_texts_at_their_bounds) (q := view (OpenLaw.row PySem.Challenge.rw_lazywebs_k73_texts_at_their_bounds).prog [66]) (H := Lz.hk) (ob := Lz.ob) (M := 6000) (loose := Lz.hloose) (d := HandSHeadRun.topDef (OpenLaw.row PySem.Challenge.rw_lazywebs_k73_texts_at_their_bounds).prog 66) (kwd := []) Lz.ob_eq
    (by kernel_rfl) (fun s => by kernel_rfl) Lz.hrun (by kernel_rfl) (by kernel_rfl) (by kernel_rfl) (by rfl) (by first | assumption | decide +kernel) (by decide +kernel) ⟨rfl, rfl, rfl, rfl, rfl, by decide +kernel⟩ ?hw ?hc
  case hw => w_witness2
  case hc =>
    refine L2.walk_ofE (l := PySem.Challenge.rw_lazywebs_k73_texts_at_their_bounds) (n := 63) (k := 38) (x := "_law_script") (CX := L2.CX0) rfl (by decide) (by kernel_rfl) ⟨rfl, by decide, by decide⟩ ?F (fun _ _ _ _ z => z)
    intro w mg fa h Y G hmg0
    obtain ⟨K, KX, c⟩ := Y
    have T := Lz.tx_mk KX G c
    have hmg : mg ("law" : PySem.Str) = some (.ref fa) := by
      have e : (HandSHeadRun.topDef (OpenLaw.row PySem.Challenge.rw_lazywebs_k73_texts_at_their_bounds).prog 66).name = ("law" : PySem.Str) := by kernel_rfl
      rw [← e]
      exact hmg0
    have e := hmg.symm.trans T.f_law
    cases e
    obtain ⟨fd, F⟩ := T.d_law
    have b := L2.FunD.bindsA (ps := ["_law_script"]) F fun _ _ _ _ _ _ us hl => match us, hl with | [_], _ => rfl
    exact ⟨K, fd, Lz.spLaw K, KX, fun s u => b s [u] rfl, fun H a ns hl _ hS => ⟨a, ns, rfl, hS, hl, fun _ => rfl⟩, fun base _ _ => Lz.law_ok T F⟩
#print axioms PySem.Challenge.cw_lazywebs_k73_texts_at_their_bounds_holds
