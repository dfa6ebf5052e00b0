import PyProof.Rows.All
import Wide.All
import OpenK.AllK
import Wide.FinOn
import KE.KStateDown
import Lean
import HandS.Base
import HandS.Call
import HandS.List
import HandS.Comp
import HandS.Ends
import HandS.Dict
import HandS.Iter
import HandS.Text
import HandS.More
import HandS.Exc
import HandS.Words
import HandS.WordsList
import HandS.Defaults
import HandS.Wide
import HandS.TupAny
import HandS.Flow
import HandS.Style
import HandS.Conv
import HandS.IsInst
import HandS.Head0
import HandS.Head1
import HandS.Head2
import HandS.HeadEnd
import HandS.HeadHook1
import HandS.HeadHook2
import HandS.HeadHook3
import HandS.DeepEq
import PyProof.NeData
import HandS.Codes
import HandS.Zip
import KE.KDictZip
import KE.GoesEnum
import KE.KDictKeyed
import KE.KeyNested
import HandS.Deep
import HandS.HeadHook4
import PySem.Challenge.RW_lazywebs_k17_needs_one_by_one
set_option Elab.async false
set_option linter.all false
set_option maxRecDepth 100000
set_option maxHeartbeats 4000000
namespace Lz
open PySem PySem.Spec PyProof.Rows L2
/-! ### heaps by what is known of them -/
/-- a new object o at p -/
def New (H : Hp) (o : HO) (R : Addr → Hp → Prop) : Prop := ∀ p H', H p = none → H' p = some o → Same H H' → R p H'
/-- but for a all is as it was -/
def Chg (a : Addr) (H H' : Hp) : Prop := ∀ b o, b ≠ a → H b = some o → H' b = some o
/-- the object at a is now o -/
def Put (H : Hp) (a : Addr) (o : HO) (R : Hp → Prop) : Prop := ∀ H', H' a = some o → Chg a H H' → R H'
theorem same_upd {H : Hp} {p : Addr} {o : HO} (h : H p = none) : Same H (upd H p o) := fun b u e => by rw [upd_ne (ne_of_none e h)]; exact e
theorem New.at {H : Hp} {o : HO} {R : Addr → Hp → Prop} (h : New H o R) : ∀ p, H p = none → R p (upd H p o) := fun p hp => h p _ hp upd_same (same_upd hp)
theorem Put.at {H : Hp} {a : Addr} {o : HO} {R : Hp → Prop} (h : Put H a o R) : R (upd H a o) := h _ upd_same fun b u n e => by rw [upd_ne n]; exact e
section
variable {X : Cx}
theorem opr_imp {f : Value → Value → Sem Value} {r r' : R2} (h : OpR X f r) (i : ∀ x y H Q, r' x y H Q → r x y H Q) : OpR X f r' := fun pins s σ H x y v u Q I rx ry q => h pins s σ H x y v u Q I rx ry (i _ _ _ _ q)
theorem callr_imp {f : Value} {r r' : List V → Hp → VK → Prop} (h : CallR X f r) (i : ∀ xs H Q, r' xs H Q → r xs H Q) : CallR X f r' := fun pins s σ H xs us Q I rs q => h pins s σ H xs us Q I rs (i _ _ _ q)
theorem mtr_imp {id : String} {r r' : V → List V → Hp → VK → Prop} (h : MtR X id r) (i : ∀ x xs H Q, r' x xs H Q → r x xs H Q) : MtR X id r' := fun pins s σ H x xs v us Q I rx rs q => h pins s σ H x xs v us Q I rx rs (i _ _ _ _ q)
theorem slr_imp {r r' : V → Option Int → Option Int → Hp → VK → Prop} (h : SlR X r) (i : ∀ x lo hi H Q, r' x lo hi H Q → r x lo hi H Q) : SlR X r' := fun pins s σ H x v vl vu lo hi sl Q I rx hs pl pu q => h pins s σ H x v vl vu lo hi sl Q I rx hs pl pu (i _ _ _ _ _ q)
/-- a reading's upward closure -/
def clA (t : TA) : TA := fun σ H Q => ∃ Q0, t σ H Q0 ∧ ∀ xs H1, Q0 xs H1 → Q xs H1
def clE (t : TE) : TE := fun σ H Q => ∃ Q0, t σ H Q0 ∧ ∀ x H1, Q0 x H1 → Q x H1
theorem pa_cl {es : List Expr} {t : TA} (h : PA X es t) : PA X es (clA t) := ⟨fun pos pins s σ H Q I ⟨Q0, q, i⟩ => thn (h.run pos pins s σ H Q0 I q) fun us s' ⟨vs, H', I', r, q'⟩ => ⟨vs, H', I', r, i _ _ q'⟩⟩
theorem pe_cl {e : Expr} {t : TE} (h : PE X e t) : PE X e (clE t) := ⟨fun pins s σ H Q I ⟨Q0, q, i⟩ => thn (h.run pins s σ H Q0 I q) fun us s' ⟨vs, H', I', r, q'⟩ => ⟨vs, H', I', r, i _ _ q'⟩⟩
/-- displays -/
def tTupN (t : TA) : TE := fun σ H Q => t σ H fun xs H1 => xs.length ≤ sizeLine ∧ New H1 (.tup xs) fun p H2 => Q (.ref p) H2
def tLstN (t : TA) : TE := fun σ H Q => t σ H fun xs H1 => xs.length ≤ sizeLine ∧ New H1 (.lst xs) fun p H2 => Q (.ref p) H2
theorem pe_tupN {es : List Expr} {t : TA} {x1 pos} (h : PA X es t) : PE X (.Tuple es x1 pos) (tTupN t) :=
  ⟨fun pins s σ H Q I q => (pe_tup (pa_cl h)).run pins s σ H Q I ⟨_, q, fun xs H1 ⟨hl, n⟩ => ⟨hl, n.at⟩⟩⟩
theorem pe_lstN {es : List Expr} {t : TA} {pos} (h : PA X es t) : PE X (.List es pos) (tLstN t) :=
  ⟨fun pins s σ H Q I q => (pe_lst (pa_cl h)).run pins s σ H Q I ⟨_, q, fun xs H1 ⟨hl, n⟩ => ⟨hl, n.at⟩⟩⟩
def tDNewKN : TE := fun _ H Q => New H (.dK []) fun p H2 => Q (.ref p) H2
/-- a display of a dict: its pairs while it is empty, then filled -/
def tDispN (trs : List (TE × TE)) : TE := fun σ H Q => New H (.dK []) fun p H1 => tPairs trs σ H1 fun ps H2 => H2 p = some (.dK []) ∧ ∃ kvs : List (Key × V), ps = kvs.map (fun kv => (kV kv.1, kv.2)) ∧ kvs.length ≤ 15 ∧ Put H2 p (.dK (mergeK [] kvs)) fun H' => Q (.ref p) H'
def clP (trs : List (TE × TE)) : List (TE × TE) := trs.map fun q => (clE q.1, clE q.2)
theorem tPairs_cl : ∀ (trs : List (TE × TE)) (σ : L2.St) (H : Hp) (Q Q' : List (V × V) → Hp → Prop), tPairs trs σ H Q → (∀ ps H', Q ps H' → Q' ps H') → tPairs (clP trs) σ H Q'
  | [], σ, H, Q, Q', h, i => i _ _ h
  | (tk, tv) :: r, σ, H, Q, Q', h, i => ⟨_, h, fun x H1 h1 => ⟨_, h1, fun y H2 h2 => tPairs_cl r σ H2 _ _ h2 fun ps H3 h3 => i _ _ h3⟩⟩
theorem pe_dispN {pos : Pos} {keys : List (Option Expr)} {values : List Expr} {trs : List (TE × TE)} (h : PPs X pos keys values (clP trs)) (hall : keys.all (·.isSome) = true) (hl : keys.length = values.length) (h0 : keys ≠ [])
    (h15 : keys.length ≤ 15) : PE X (.Dict keys values pos) (tDispN trs) :=
  ⟨fun pins s σ H Q I q => (pe_disp h hall hl h0 h15).run pins s σ H Q I fun p hp => tPairs_cl trs σ _ _ _ (q p _ hp upd_same (same_upd hp)) fun ps H2 ⟨e, kvs, e1, e2, n⟩ => ⟨e, kvs, e1, e2, n.at⟩⟩
theorem pe_dnewKN {pos} : PE X (.Dict [] [] pos) tDNewKN := ⟨fun pins s σ H Q I q => pe_dnewK.run pins s σ H Q I (New.at q)⟩
end
/-! ### operators, whatever the operands are -/
section
variable {X : Cx}
def rAddG (K : PySem.W.Frag) : R2 := fun x y H Q => (rI0 fun i j => .int (i + j)) x y H Q ∨ (∃ i j, x = .str i ∧ y = .str j ∧ i.length + j.length ≤ sizeLine ∧ Q (.str (i ++ j)) H) ∨
  (∃ l b xs zs, x = .ref l ∧ y = .ref b ∧ H l = some (.lst xs) ∧ H b = some (.lst zs) ∧ xs.length + zs.length ≤ sizeLine ∧ New H (.lst (xs ++ zs)) fun p H' => Q (.ref p) H') ∨
  (∃ a b xs ys, x = .ref a ∧ y = .ref b ∧ SqT K H a xs ∧ SqT K H b ys ∧ xs.length + ys.length ≤ sizeLine ∧
    (xs = [] → Q (.ref b) H) ∧ (xs ≠ [] → ys = [] → Q (.ref a) H) ∧ (xs ≠ [] → ys ≠ [] → New H (.tup (xs ++ ys)) fun p H' => Q (.ref p) H'))
theorem op_addG : OpR X (binaryOp .Add) (rAddG X.K) := opr_imp (op_add.or (op_add_str.or (op_cat.or op_catA))) fun x y H Q h => by
  rcases h with h | h | ⟨l, b, xs, zs, e1, e2, h1, h2, hl, n⟩ | ⟨a, b, xs, ys, e1, e2, h1, h2, hl, n0, n1, n⟩
  · exact .inl h
  · exact .inr (.inl h)
  · exact .inr (.inr (.inl ⟨l, b, xs, zs, e1, e2, h1, h2, hl, n.at⟩))
  · exact .inr (.inr (.inr ⟨a, b, xs, ys, e1, e2, h1, h2, hl, n0, n1, fun x1 y1 => (n x1 y1).at⟩))
abbrev rSubG : R2 := rI0 fun i j => .int (i - j)
def rMulG : R2 := fun x y H Q => (rI CMul fun i j => .int (i * j)) x y H Q ∨ (rI CMulW fun i j => .int (i * j)) x y H Q
theorem op_mulG : OpR X (binaryOp .Mult) rMulG := op_mul.or op_mulW
abbrev rDivG : R2 := rI CDivW fun i j => .int (i / j)
abbrev rModG : R2 := rI (fun _ j => 0 < j) fun i j => .int (i % j)
abbrev rPowG : R2 := rI CPow fun i j => .int (i ^ j.toNat)
/-- values that are like themselves at once: those of hits_all, and one and the same object -/
def flatR : V → Bool
  | .ref _ => true
  | v => flatB v
theorem eqAt_sameR {A : Around} {s : Shared} {v : V} {u u' : Value} (r : RelV v u) (r' : RelV v u') (f : flatR v = true) : SeqAt.EqAt A s u u' true := by
  cases v with
  | ref a =>
    obtain rfl : u = Value.ref a := r
    obtain rfl : u' = Value.ref a := r'
    exact SeqAt.EqAt.same _
  | _ => exact eqAt_same r r' f
theorem hits_allR {κ : Type} [DecidableEq κ] {A : Around} {s : Shared} {kvs : List (κ × V)} {vb : List (κ × Value)} (rb : KV kvs vb) {ks : List (κ × V)} {va : List (κ × Value)} (ra : KV ks va) :
    (∀ p ∈ ks, valV kvs p.1 = some p.2 ∧ flatR p.2 = true) → PySem.W.KeqHits A s vb va true := by
  unfold KV at ra
  induction ra with
  | nil => intro _; exact .nil
  | @cons p q ps qs h t ih =>
    intro hp
    obtain ⟨h1, h2⟩ := h
    obtain ⟨e, f⟩ := hp p List.mem_cons_self
    have rr : RelO (some p.2) (valueAt vb p.1) := by rw [← e]; exact rb.val p.1
    obtain ⟨y, hy, ry⟩ := rr.some_of
    obtain ⟨k, v⟩ := q
    have h1' : p.1 = k := h1
    rw [h1'] at hy
    show PySem.W.KeqHits A s vb ((k, v) :: qs) (true && true)
    exact .hit hy (eqAt_sameR h2 ry f) (ih fun p' hm => hp p' (List.mem_cons_of_mem _ hm))
/-- two dicts that hold the same, whatever the order of their keys is; values flat or the same objects -/
def rSameD (b : Bool) : R2 := fun x y H Q => ∃ p q ks ls, x = .ref p ∧ y = .ref q ∧ H p = some (.dK ks) ∧ H q = some (.dK ls) ∧ ks.length = ls.length ∧ (∀ p ∈ ks, valV ls p.1 = some p.2 ∧ flatR p.2 = true) ∧ Q (.bl b) H
theorem op_eq_dictR (hu : X.A.units < cLine) : OpR X (compareOp .Eq) (rSameD true) := by
  intro pins s σ H x y v u Q I rx ry h
  obtain ⟨a, b, ks, ls, rfl, rfl, ea, eb, hlen, hp, q⟩ := h
  obtain rfl : v = Value.ref a := rx
  obtain rfl : u = Value.ref b := ry
  obtain ⟨_, ya, va, ra, da⟩ := (show ObjOk X.prog X.w H s.heap a (.dK ks) from I.hok a _ ea)
  obtain ⟨_, yb, vb, rb, db⟩ := (show ObjOk X.prog X.w H s.heap b (.dK ls) from I.hok b _ eb)
  have hl : va.length = vb.length := by rw [← ra.length, ← rb.length]; exact hlen
  exact PySem.W.keq_eq (knd := mixKind X.prog X.w) (r := true) ya yb da db hu (fun _ => hits_allR rb ra hp) (fin_bl I q (by simp [hl]))
theorem op_ne_dictR (hu : X.A.units < cLine) : OpR X (compareOp .NotEq) (rSameD false) := by
  intro pins s σ H x y v u Q I rx ry h
  obtain ⟨a, b, ks, ls, rfl, rfl, ea, eb, hlen, hp, q⟩ := h
  obtain rfl : v = Value.ref a := rx
  obtain rfl : u = Value.ref b := ry
  obtain ⟨_, ya, va, ra, da⟩ := (show ObjOk X.prog X.w H s.heap a (.dK ks) from I.hok a _ ea)
  obtain ⟨_, yb, vb, rb, db⟩ := (show ObjOk X.prog X.w H s.heap b (.dK ls) from I.hok b _ eb)
  have hl : va.length = vb.length := by rw [← ra.length, ← rb.length]; exact hlen
  exact PySem.W.keq_ne (knd := mixKind X.prog X.w) (r := true) ya yb da db hu (fun _ => hits_allR rb ra hp) (fin_bl I q (by simp [hl]))
end
/-! ### alike: by structure, down to flat values or to one and the same object; however deep (the stack has room) -/
/-- two lists, two tuples of alike items -/
def LkR (K : PySem.W.Frag) (H : Hp) (E : V → V → Prop) (x y : V) : Prop :=
  (∃ a b xs ys, x = .ref a ∧ y = .ref b ∧ SqL K H a xs ∧ SqL K H b ys ∧ Paired E xs ys) ∨ ∃ a b xs ys, x = .ref a ∧ y = .ref b ∧ SqT K H a xs ∧ SqT K H b ys ∧ Paired E xs ys
def Lk (K : PySem.W.Frag) (H : Hp) : Nat → V → V → Prop
  | 0 => fun _ _ => False
  | n + 1 => fun x y => (x = y ∧ flatB x = true) ∨ (∃ a, x = .ref a ∧ y = .ref a) ∨ LkR K H (Lk K H n) x y
theorem items_like {A : Around} {s : Shared} {F : V → V → Prop} (ih : ∀ x y v u, F x y → RelV x v → RelV y u → SeqAt.EqAt A s v u true) {xs ys : List V} (hp : Paired F xs ys) :
    ∀ {us ws : List Value}, Vals xs us → Vals ys ws → ∀ j (h1 : j < us.length) (h2 : j < ws.length), SeqAt.EqAt A s us[j] ws[j] true := by
  induction hp with
  | nil =>
    intro us ws r1 r2 j h1 h2
    cases r1
    exact absurd h1 (Nat.not_lt_zero j)
  | cons h _ k =>
    intro us ws r1 r2 j h1 h2
    cases r1 with
    | cons a1 b1 =>
      cases r2 with
      | cons a2 b2 =>
        cases j with
        | zero => exact ih _ _ _ _ h a1 a2
        | succ j => exact k b1 b2 j (Nat.lt_of_succ_lt_succ h1) (Nat.lt_of_succ_lt_succ h2)
section
variable {X : Cx} {pins : List (Addr × Obj)} {σ : L2.St} {H : Hp} {s : Shared}
/-- both, asked by == or by !=: R is what is told of lists and of tuples -/
theorem like_run {R : Around → Shared → Value → Value → Bool → Prop} {t : Bool} (I : Inv X pins σ H s) {A : Around} {F : V → V → Prop} (hu : A.units < cLine)
    (hl : ∀ {l b : Addr} {items items2 : Array Value} {e : Nat → Bool}, s.heap.IsList l items → s.heap.IsList b items2 → items.size = items2.size → (∀ j (h1 : j < items.size) (h2 : j < items2.size), SeqAt.EqAt A.in1 s items[j] items2[j] (e j)) →
      (List.range items.size).all e = true → R A s (.ref l) (.ref b) t)
    (ht : ∀ {l b : Addr} {items items2 : Array Value} {e : Nat → Bool}, s.heap.IsTuple l items → s.heap.IsTuple b items2 → (∀ j (h1 : j < items.size) (h2 : j < items2.size), SeqAt.EqAt A.in1 s items[j] items2[j] (e j)) →
      ((List.range (min items.size items2.size)).all e && items.size == items2.size) = true → R A s (.ref l) (.ref b) t)
    (ih : ∀ x y v u, F x y → RelV x v → RelV y u → SeqAt.EqAt A.in1 s v u true) {x y : V} {v u : Value} (h : LkR X.K H F x y) (rx : RelV x v) (ry : RelV y u) : R A s v u t := by
  rcases h with ⟨a, b, xs, ys, rfl, rfl, ha, hb, hp⟩ | ⟨a, b, xs, ys, rfl, rfl, ha, hb, hp⟩
  · cases (show v = Value.ref a from rx)
    cases (show u = Value.ref b from ry)
    obtain ⟨us, r1, p1, _⟩ := I.list ha
    obtain ⟨ws, r2, p2, _⟩ := I.list hb
    have hsz : us.toArray.size = ws.toArray.size := by
      rw [List.size_toArray, List.size_toArray, ← r1.length, ← r2.length]
      exact Paired.length hp
    refine hl (e := fun _ => true) p1.isList p2.isList hsz (fun j h1 h2 => ?_) (List.all_eq_true.mpr fun _ _ => rfl)
    have k := items_like ih hp r1 r2 j (by simpa using h1) (by simpa using h2)
    simpa using k
  · cases (show v = Value.ref a from rx)
    cases (show u = Value.ref b from ry)
    obtain ⟨us, r1, p1, _⟩ := I.tuple ha
    obtain ⟨ws, r2, p2, _⟩ := I.tuple hb
    have hsz : us.toArray.size = ws.toArray.size := by
      rw [List.size_toArray, List.size_toArray, ← r1.length, ← r2.length]
      exact Paired.length hp
    refine ht (e := fun _ => true) p1 p2 (fun j h1 h2 => ?_) ?_
    · have k := items_like ih hp r1 r2 j (by simpa using h1) (by simpa using h2)
      simpa using k
    · rw [Bool.and_eq_true]
      exact ⟨List.all_eq_true.mpr fun _ _ => rfl, by simpa using hsz⟩
theorem lk_eqAt (I : Inv X pins σ H s) : ∀ (n : Nat) (A : Around), A.units + n < cLine → ∀ (x y : V) (v u : Value), Lk X.K H n x y → RelV x v → RelV y u → SeqAt.EqAt A s v u true
  | 0, _, _, _, _, _, _, h, _, _ => (show False from h).elim
  | n + 1, A, hu, x, y, v, u, h, rx, ry => by
    rcases h with ⟨rfl, f⟩ | ⟨a, rfl, rfl⟩ | h
    · exact eqAt_same rx ry f
    · cases (show v = Value.ref a from rx)
      cases (show u = Value.ref a from ry)
      exact SeqAt.EqAt.same _
    · have hu1 : A.units < cLine := by omega
      have step : SeqAt.RcAt A s v u true := like_run (R := SeqAt.RcAt) I hu1 (fun h1 h2 h3 h4 h5 => h5 ▸ SeqAt.RcAt.lists h1 h2 h3 hu1 h4) (fun h1 h2 h4 h5 => h5 ▸ SeqAt.RcAt.tuples h1 h2 hu1 h4)
        (lk_eqAt I n A.in1 (by show A.units + 1 + n < cLine; omega)) h rx ry
      obtain ⟨a, b, rfl, rfl⟩ : ∃ a b, x = .ref a ∧ y = .ref b := by
        rcases h with ⟨a, b, _, _, e1, e2, _⟩ | ⟨a, b, _, _, e1, e2, _⟩
        · exact ⟨a, b, e1, e2⟩
        · exact ⟨a, b, e1, e2⟩
      cases (show v = Value.ref a from rx)
      cases (show u = Value.ref b from ry)
      by_cases e : a = b
      · subst e
        exact SeqAt.EqAt.same _
      · exact SeqAt.EqAt.of_refs e step
end
section
variable {X : Cx}
/-- a == b, a != b of two lists, two tuples that are alike -/
def rLikeN (K : PySem.W.Frag) (N : Nat) (t : Bool) : R2 := fun x y H Q => ∃ n, n ≤ N ∧ LkR K H (Lk K H n) x y ∧ Q (.bl t) H
abbrev rLike (K : PySem.W.Frag) (t : Bool) : R2 := rLikeN K 150 t
theorem op_eqLike {N : Nat} (hu : X.A.units + (N + 50) < cLine) : OpR X (compareOp .Eq) (rLikeN X.K N true) := by
  intro pins s σ H x y v u Q I rx ry h
  obtain ⟨n, hn, h, q⟩ := h
  have hu1 : X.A.units < cLine := by omega
  have step : SeqAt.RcAt X.A s v u true := like_run (R := SeqAt.RcAt) I hu1 (fun h1 h2 h3 h4 h5 => h5 ▸ SeqAt.RcAt.lists h1 h2 h3 hu1 h4) (fun h1 h2 h4 h5 => h5 ▸ SeqAt.RcAt.tuples h1 h2 hu1 h4)
    (lk_eqAt I n X.A.in1 (by show X.A.units + 1 + n < cLine; omega)) h rx ry
  exact step X.prog X.w X.xe _ ⟨.bl true, H, I, rfl, q⟩
theorem op_neLike {N : Nat} (hu : X.A.units + (N + 50) < cLine) : OpR X (compareOp .NotEq) (rLikeN X.K N false) := by
  intro pins s σ H x y v u Q I rx ry h
  obtain ⟨n, hn, h, q⟩ := h
  have hu1 : X.A.units < cLine := by omega
  have step : SeqAt.RcNeAt X.A s v u false := like_run (R := SeqAt.RcNeAt) I hu1
    (fun h1 h2 h3 h4 h5 => by have := SeqAt.RcNeAt.lists h1 h2 h3 hu1 h4; rw [h5] at this; exact this) (fun h1 h2 h4 h5 => by have := SeqAt.RcNeAt.tuples h1 h2 hu1 h4; rw [h5] at this; exact this)
    (lk_eqAt I n X.A.in1 (by show X.A.units + 1 + n < cLine; omega)) h rx ry
  exact step X.prog X.w X.xe _ ⟨.bl false, H, I, rfl, q⟩
end
section
variable {X : Cx}
/-- two lists of unlike lengths -/
def rLens (K : PySem.W.Frag) (t : Bool) : R2 := fun x y H Q => ∃ a b xs ys, x = .ref a ∧ y = .ref b ∧ SqL K H a xs ∧ SqL K H b ys ∧ xs.length ≠ ys.length ∧ Q (.bl t) H
theorem op_eqLens (hu : X.A.units < cLine) : OpR X (compareOp .Eq) (rLens X.K false) := by
  intro pins s σ H x y v u Q I rx ry ⟨a, b, xs, ys, e1, e2, ha, hb, hn, q⟩
  subst e1
  subst e2
  cases (show v = Value.ref a from rx)
  cases (show u = Value.ref b from ry)
  obtain ⟨us, r1, p1, _⟩ := I.list ha
  obtain ⟨ws, r2, p2, _⟩ := I.list hb
  have e : (us.toArray.size != ws.toArray.size) = true := by rw [List.size_toArray, List.size_toArray, ← r1.length, ← r2.length]; simpa using hn
  exact (SeqAt.RcAt.lists_lengths p1.isList p2.isList e hu) X.prog X.w X.xe _ ⟨.bl false, H, I, rfl, q⟩
theorem op_neLens (hu : X.A.units < cLine) : OpR X (compareOp .NotEq) (rLens X.K true) := by
  intro pins s σ H x y v u Q I rx ry ⟨a, b, xs, ys, e1, e2, ha, hb, hn, q⟩
  subst e1
  subst e2
  cases (show v = Value.ref a from rx)
  cases (show u = Value.ref b from ry)
  obtain ⟨us, r1, p1, _⟩ := I.list ha
  obtain ⟨ws, r2, p2, _⟩ := I.list hb
  have e : (us.toArray.size != ws.toArray.size) = true := by rw [List.size_toArray, List.size_toArray, ← r1.length, ← r2.length]; simpa using hn
  exact (SeqAt.RcNeAt.lists_lengths p1.isList p2.isList e hu) X.prog X.w X.xe _ ⟨.bl true, H, I, rfl, q⟩
def rEqG (K : PySem.W.Frag) : R2 := fun x y H Q => rEq x y H Q ∨ rEqD K x y H Q ∨ rSameD true x y H Q ∨ rLike K true x y H Q ∨ rLens K false x y H Q
def rNeG (K : PySem.W.Frag) : R2 := fun x y H Q => rNe x y H Q ∨ rNeD K x y H Q ∨ rSameD false x y H Q ∨ rLike K false x y H Q ∨ rLens K true x y H Q
theorem op_eqG (hu : X.A.units + 200 < cLine) : OpR X (compareOp .Eq) (rEqG X.K) := op_eq.or ((op_eqD (by omega)).or ((op_eq_dictR (by omega)).or ((op_eqLike hu).or (op_eqLens (by omega)))))
theorem op_neG (hu : X.A.units + 200 < cLine) : OpR X (compareOp .NotEq) (rNeG X.K) := op_ne.or ((op_neD (by omega)).or ((op_ne_dictR (by omega)).or ((op_neLike hu).or (op_neLens (by omega)))))
theorem hu2_of {k : Nat} {A : Around} (hr : Room k A) : A.units + 200 < cLine := by have := hr.un; omega
/-- the same where there is more room: alike up to a thousand deep -/
def rEqB (K : PySem.W.Frag) : R2 := fun x y H Q => rEqG K x y H Q ∨ rLikeN K 1000 true x y H Q
def rNeB (K : PySem.W.Frag) : R2 := fun x y H Q => rNeG K x y H Q ∨ rLikeN K 1000 false x y H Q
abbrev rLtG : R2 := rI0 fun i j => .bl (decide (i < j))
abbrev rLeG : R2 := rI0 fun i j => .bl (decide (i ≤ j))
abbrev rGtG : R2 := rI0 fun i j => .bl (decide (j < i))
abbrev rGeG : R2 := rI0 fun i j => .bl (decide (j ≤ i))
/-- y in a tracked dict -/
def rInT (neg : Bool) : R2 := fun y x H Q => ∃ a o, x = .ref a ∧ DGet H a y o ∧ Q (.bl (if neg then !o.isSome else o.isSome)) H
theorem op_in_t (hu : X.A.units + 1 < cLine) : OpR X (compareOp .In) (rInT false) := by
  intro pins s σ H y x u v Q I ry rx h
  obtain ⟨a, o, rfl, g, q⟩ := h
  cases rx
  exact d_in hu I g ry fun s' I' => ⟨.bl o.isSome, H, I', rfl, q⟩
theorem op_notIn_t (hu : X.A.units + 1 < cLine) : OpR X (compareOp .NotIn) (rInT true) := by
  intro pins s σ H y x u v Q I ry rx h
  obtain ⟨a, o, rfl, g, q⟩ := h
  cases rx
  exact d_notIn hu I g ry fun s' I' => ⟨.bl (!o.isSome), H, I', rfl, q⟩
/-- the written dict at d holds z's value, or nothing -/
def KGet (K : PySem.W.Frag) (w : World) (d : Addr) (z : Str) (r : Option V) : Prop :=
  ∃ es n, KDict K w d es n ∧ ((r = none ∧ PySem.W.nsIn K d z = some none) ∨ ∃ u v, r = some v ∧ PySem.W.nsIn K d z = some (some u) ∧ RelV v u)
def rInK (K : PySem.W.Frag) (w : World) (neg : Bool) : R2 := fun y x H Q => ∃ z d r, y = .str z ∧ x = .ref d ∧ KGet K w d z r ∧ Q (.bl (if neg then !r.isSome else r.isSome)) H
theorem KGet.ns {K : PySem.W.Frag} {w : World} {d : Addr} {z : Str} {r : Option V} (h : KGet K w d z r) : ∃ es n r', KDict K w d es n ∧ PySem.W.nsIn K d z = some r' ∧ r'.isSome = r.isSome := by
  obtain ⟨es, n, D, ⟨rfl, e⟩ | ⟨u, v, rfl, e, _⟩⟩ := h
  · exact ⟨es, n, none, D, e, rfl⟩
  · exact ⟨es, n, some u, D, e, rfl⟩
theorem op_in_k : OpR X (compareOp .In) (rInK X.K X.w false) := by
  intro pins s σ H y x u v Q I ry rx h
  obtain ⟨z, d, r, rfl, rfl, g, q⟩ := h
  obtain ⟨es, n, r', D, e, e2⟩ := g.ns
  exact op_in_kd D pins s σ H _ _ u v Q I ry rx ⟨z, r', rfl, rfl, e, by rw [e2]; exact q⟩
theorem op_notIn_k : OpR X (compareOp .NotIn) (rInK X.K X.w true) := by
  intro pins s σ H y x u v Q I ry rx h
  obtain ⟨z, d, r, rfl, rfl, g, q⟩ := h
  obtain ⟨es, n, r', D, e, e2⟩ := g.ns
  exact op_notIn_kd D pins s σ H _ _ u v Q I ry rx ⟨z, r', rfl, rfl, e, by rw [e2]; exact q⟩
def rInS (neg : Bool) : R2 := fun x y H Q => ∃ i j, x = .str i ∧ y = .str j ∧ Q (.bl (if neg then !(!(Builtin.Str.occurrences j i 0 j.length 1).isEmpty) else !(Builtin.Str.occurrences j i 0 j.length 1).isEmpty)) H
theorem op_in_s : OpR X (compareOp .In) (rInS false) := op_in_str
theorem op_notIn_s : OpR X (compareOp .NotIn) (rInS true) := op_notIn_str
def rInG (K : PySem.W.Frag) (w : World) (neg : Bool) : R2 := fun x y H Q => rIn K neg x y H Q ∨ rInS neg x y H Q ∨ rInT neg x y H Q ∨ rInK K w neg x y H Q
theorem op_inG (hu : X.A.units + 1 < cLine) : OpR X (compareOp .In) (rInG X.K X.w false) := op_in_seq.or (op_in_s.or ((op_in_t hu).or op_in_k))
theorem op_notInG (hu : X.A.units + 1 < cLine) : OpR X (compareOp .NotIn) (rInG X.K X.w true) := op_notIn_seq.or (op_notIn_s.or ((op_notIn_t hu).or op_notIn_k))
/-! ### is -/
def rIsG (neg : Bool) : R2 := fun x y H Q => (y = .non ∧ Q (.bl (if neg then !decide (x = .non) else decide (x = .non))) H) ∨ (∃ a b : Bool, x = .bl a ∧ y = .bl b ∧ Q (.bl (if neg then !decide (a = b) else decide (a = b))) H)
theorem op_isG : OpR X (compareOp .Is) (rIsG false) := op_isN.or op_isBl
/-! ### len of anything -/
def rLenD : List V → Hp → VK → Prop := fun xs H Q => ∃ a kvs, xs = [.ref a] ∧ Rd H a (.dK kvs) ∧ Q (.int kvs.length) H
theorem call_lenK : CallR X (.builtin "len") rLenD := by
  intro pins s σ H xs us Q I r h
  obtain ⟨a, kvs, rfl, g, q⟩ := h
  obtain ⟨u, rfl, ru⟩ := vals1 r
  cases ru
  exact d_len I g fun t s' I' => ⟨.int kvs.length, H, I', ⟨t, rfl⟩, q⟩
def rLenG (K : PySem.W.Frag) : List V → Hp → VK → Prop := fun xs H Q => (∃ x n, xs = [x] ∧ LenV K x H n ∧ Q (.int n) H) ∨ rLenD xs H Q
theorem call_lenG : CallR X (.builtin "len") (rLenG X.K) := call_len.or call_lenK
/-! ### what is walked -/
def iOr (a b : TI) : TI := fun σ H R => a σ H R ∨ b σ H R
theorem piOr {tg e : Expr} {a b : TI} (ha : PI X tg e a) (hb : PI X tg e b) : PI X tg e (iOr a b) :=
  ⟨fun pins s σ H R I h => h.elim (ha.run pins s σ H R I) (hb.run pins s σ H R I)⟩
/-- a list, a tuple, a text -/
def iSeq (K : PySem.W.Frag) (te : TE) : TI := iOr (iList K te) (iOr (iTup K te) (iStr te))
theorem pi_seq {tg e : Expr} {te : TE} (h : PE X e te) : PI X tg e (iSeq X.K te) := piOr (pi_list h) (piOr (pi_tup h) (pi_str h))
end

/-! ### subscripts, slices, stores -/
section
variable {X : Cx}
def rGetT : R2 := fun x y H Q => ∃ a v, x = .ref a ∧ DGet H a y (some v) ∧ Q v H
theorem ix_dictT (hu : X.A.units + 1 < cLine) : IxR X rGetT := by
  intro value slice pins s σ H x y v u Q I rx ry h hs
  obtain ⟨a, z, rfl, g, q⟩ := h
  cases rx
  exact tail_any (dict_typeIs I g) PySem.F.slot_dict_getitem.lookup (d_getItem hu I g ry fun w' s3 I3 rw' => ⟨z, H, I3, rw', q⟩) hs
def rGetK (K : PySem.W.Frag) (w : World) : R2 := fun x y H Q => ∃ d z v, x = .ref d ∧ y = .str z ∧ KGet K w d z (some v) ∧ Q v H
theorem ix_dictK : IxR X (rGetK X.K X.w) := by
  intro value slice pins s σ H x y v u Q I rx ry h hs
  obtain ⟨d, z, r, rfl, rfl, ⟨es, n, D, ⟨e0, _⟩ | ⟨u0, v0, e0, e1, r0⟩⟩, q⟩ := h
  · cases e0
  · cases e0
    have ry' := ry
    cases rx
    exact tail_any (kd_type D I) PySem.F.slot_dict_getitem.lookup (op_item_kd D pins s σ H (.ref d) (.str z) (.ref d) u Q I rfl ry' ⟨z, u0, r, rfl, rfl, e1, r0, q⟩) hs
def rIxG (K : PySem.W.Frag) (w : World) : R2 := fun x y H Q => rIx K x y H Q ∨ rGetT x y H Q ∨ rGetK K w x y H Q
theorem ix_any (hu : X.A.units + 1 < cLine) : IxR X (rIxG X.K X.w) := ix_seq.or ((ix_dictT hu).or ix_dictK)
def tIxG (K : PySem.W.Frag) (w : World) (ta tb : TE) : TE := tOp (rIxG K w) ta tb
theorem pe_ixG {a b : Expr} {ta tb : TE} {pos : Pos} (hu : X.A.units + 1 < cLine) (ha : PE X a ta) (hb : PE X b tb) (hs : PlainIx b) : PE X (.Subscript a b pos) (tIxG X.K X.w ta tb) := pe_ix (ix_any hu) ha hb hs
def rSlG (K : PySem.W.Frag) : V → Option Int → Option Int → Hp → VK → Prop := fun x lo hi H Q => (∃ a xs, x = .ref a ∧ SqL K H a xs ∧ New H (.lst (cutV xs lo hi)) fun p H' => Q (.ref p) H') ∨
  (∃ a xs, x = .ref a ∧ SqT K H a xs ∧ (HT.sIx xs.length 0 lo = 0 ∧ HT.sIx xs.length xs.length hi = xs.length → Q (.ref a) H) ∧ (¬ (HT.sIx xs.length 0 lo = 0 ∧ HT.sIx xs.length xs.length hi = xs.length) → New H (.tup (cutV xs lo hi)) fun p H' => Q (.ref p) H')) ∨ rSlS x lo hi H Q
theorem sl_any : SlR X (rSlG X.K) := slr_imp (sl_list.or (sl_tupA.or sl_str)) fun x lo hi H Q h => by
  rcases h with ⟨a, xs, e, h, n⟩ | ⟨a, xs, e, h, n1, n2⟩ | h
  · exact .inl ⟨a, xs, e, h, n.at⟩
  · exact .inr (.inl ⟨a, xs, e, h, n1, fun z => (n2 z).at⟩)
  · exact .inr (.inr h)
def tRevG (K : PySem.W.Frag) (te : TE) : TE := fun σ H Q => te σ H fun x H1 => ∃ a xs, x = .ref a ∧ SqL K H1 a xs ∧ New H1 (.lst xs.reverse) fun p H' => Q (.ref p) H'
theorem pe_revG {e : Expr} {te : TE} {k : Nat} {p1 p2 p3 pos : Pos} (he : PE X e te) : PE X (.Subscript e (.Slice none none (some (.UnaryOp .USub (.Constant (.int 1) k p1) p2)) p3) pos) (tRevG X.K te) :=
  ⟨fun pins s σ H Q I q => (pe_revL (pe_cl he)).run pins s σ H Q I ⟨_, q, fun x H1 ⟨a, xs, e, h, n⟩ => ⟨a, xs, e, h, n.at⟩⟩⟩
def rSetD : TSet := fun o i v H Q => ∃ a H', o = .ref a ∧ DPut H a i v H' ∧ Q H'
theorem set_dict (hu : X.A.units + 1 < cLine) : PSet X rSetD := by
  intro pins s σ H o i v ov iv u Q I ro ri rv h
  obtain ⟨a, H', rfl, g, q⟩ := h
  cases ro
  exact d_setItem hu I g ri rv fun s' I' => ⟨H', I', q⟩
def rSetG : TSet := fun o i v H Q => (∃ p xs k j, o = .ref p ∧ i = .int k ∧ H p = some (.lst xs) ∧ ixN xs.length k = some j ∧ Put H p (.lst (xs.set j v)) Q) ∨
  (∃ a kvs k, o = .ref a ∧ H a = some (.dK kvs) ∧ i = kV k ∧ kvs.length < sizeLine ∧ Put H a (.dK (putK kvs k v)) Q)
theorem set_any (hu : X.A.units + 1 < cLine) : PSet X rSetG := by
  intro pins s σ H o i v ov iv u Q I ro ri rv h
  rcases h with ⟨p, xs, k, j, e1, e2, h1, h2, q⟩ | ⟨a, kvs, k, e1, h1, e2, hl, q⟩
  · exact set_list pins s σ H o i v ov iv u Q I ro ri rv ⟨p, xs, k, j, e1, e2, h1, h2, q.at⟩
  · exact set_dict hu pins s σ H o i v ov iv u Q I ro ri rv ⟨a, _, e1, .inl ⟨kvs, k, h1, e2, hl, rfl⟩, q.at⟩
/-! ### tests by truth -/
def tTru (K : PySem.W.Frag) (ta : TE) : TT := fun σ H Q => ta σ H fun x H' => ∃ k, TruV K x H' k ∧ Q k H'
theorem pt_tru {a : Expr} {ta : TE} (ha : PE X a ta) (he : ∀ whole, isTrue a X.env whole = (do let v ← whole; standAt a.pos; holding [v] (truthy v))) : PT X a (tTru X.K ta) := pt_truth ha he
/-! ### builtins -/
abbrev rAbsG : List V → Hp → VK → Prop := fun xs H Q => ∃ i, xs = [.int i] ∧ Q (.int (if i < 0 then -i else i)) H
abbrev rMax2 : List V → Hp → VK → Prop := fun xs H Q => ∃ i j, xs = [.int i, .int j] ∧ Q (.int (if j > i then j else i)) H
abbrev rMin2 : List V → Hp → VK → Prop := fun xs H Q => ∃ i j, xs = [.int i, .int j] ∧ Q (.int (if j < i then j else i)) H
def rIntS : List V → Hp → VK → Prop := fun xs H Q => ∃ a n, xs = [.str a] ∧ PySem.intText? a = some n ∧ a.length ≤ 640 ∧ Q (.int n) H
def rIntG : List V → Hp → VK → Prop := fun xs H Q => (∃ i, xs = [.int i] ∧ Q (.int i) H) ∨ ∃ k, xs = [.bl k] ∧ Q (.int (if k then 1 else 0)) H
abbrev rBool1 : List V → Hp → VK → Prop := fun xs H Q => (∃ i, xs = [.int i] ∧ Q (.bl (i != 0)) H) ∨ ∃ k, xs = [.bl k] ∧ Q (.bl k) H
abbrev rStrG : List V → Hp → VK → Prop := fun xs H Q => ∃ i, xs = [.int i] ∧ i.natAbs.log2 < 1920 ∧ Q (.str (toString i)) H
def rListG (K : PySem.W.Frag) : List V → Hp → VK → Prop := fun xs H Q => (∃ p ys, xs = [.ref p] ∧ (SqL K H p ys ∨ SqT K H p ys) ∧ New H (.lst ys) fun l H' => Q (.ref l) H') ∨
  ∃ p kvs, xs = [.ref p] ∧ H p = some (.dK kvs) ∧ New H (.lst (kvs.map fun kv => kV kv.1)) fun q H' => Q (.ref q) H'
theorem call_listG (hc : X.calm = true) : CallR X (.type "list") (rListG X.K) := callr_imp (CallR.or call_list_of (call_list_dK hc)) fun xs H Q h => by
  rcases h with ⟨p, ys, e, h, n⟩ | ⟨p, kvs, e, h, n⟩
  · exact .inl ⟨p, ys, e, h, n.at⟩
  · exact .inr ⟨p, kvs, e, h, n.at⟩
def rTupleG (K : PySem.W.Frag) : List V → Hp → VK → Prop := fun xs H Q => ∃ p ys, xs = [.ref p] ∧ ((SqL K H p ys ∧ New H (.tup ys) fun l H' => Q (.ref l) H') ∨ (SqT K H p ys ∧ Q (.ref p) H))
theorem call_tupleG : CallR X (.type "tuple") (rTupleG X.K) := callr_imp call_tuple_of fun xs H Q ⟨p, ys, e, h⟩ => ⟨p, ys, e, h.imp (fun ⟨a, n⟩ => ⟨a, n.at⟩) id⟩
/-! ### methods of lists and texts -/
def rAppendG : V → List V → Hp → VK → Prop := fun x vs H Q => ∃ l xs y, x = .ref l ∧ vs = [y] ∧ H l = some (.lst xs) ∧ xs.length < sizeLine ∧ Put H l (.lst (xs ++ [y])) fun H' => Q .non H'
theorem mt_appendG : MtR X "list.append" rAppendG := mtr_imp mt_append fun x xs H Q ⟨l, ys, y, e1, e2, h, hl, q⟩ => ⟨l, ys, y, e1, e2, h, hl, q.at⟩
def rExtendG : V → List V → Hp → VK → Prop := fun x vs H Q => ∃ l b xs zs, x = .ref l ∧ vs = [.ref b] ∧ H l = some (.lst xs) ∧ H b = some (.lst zs) ∧ xs.length + zs.length ≤ sizeLine ∧ Put H l (.lst (xs ++ zs)) fun H' => Q .non H'
theorem mt_extendG : MtR X "list.extend" rExtendG := mtr_imp mt_extend fun x xs H Q ⟨l, b, ys, zs, e1, e2, h, h2, hl, q⟩ => ⟨l, b, ys, zs, e1, e2, h, h2, hl, q.at⟩
def rPopG : V → List V → Hp → VK → Prop := fun x vs H Q => ∃ l xs y, x = .ref l ∧ vs = [] ∧ H l = some (.lst xs) ∧ xs[xs.length - 1]? = some y ∧ Put H l (.lst xs.dropLast) fun H' => Q y H'
theorem mt_popG : MtR X "list.pop" rPopG := mtr_imp mt_pop fun x xs H Q ⟨l, ys, y, e1, e2, h, hl, q⟩ => ⟨l, ys, y, e1, e2, h, hl, q.at⟩
abbrev rIsiG := rIsi
theorem call_isiG : CallR X (.builtin "isinstance") (rIsiG X.K) := call_isi
def rSplitG : V → List V → Hp → VK → Prop := fun x xs H Q => ∃ a b, x = .str a ∧ xs = [.str b] ∧ (b.length == 0) = false ∧ a.length + 2 ≤ sizeLine ∧ New H (.lst ((Txt.split a b).map V.str)) fun p H' => Q (.ref p) H'
abbrev rJoinG (K : PySem.W.Frag) : V → List V → Hp → VK → Prop := fun x xs H Q => ∃ a p, ∃ ys : List Str, x = .str a ∧ xs = [.ref p] ∧ (SqL K H p (ys.map V.str) ∨ SqT K H p (ys.map V.str)) ∧
      (ys.map (·.length)).sum + ys.length * a.length ≤ 16777216 ∧ Q (.str (Txt.join a ys)) H
theorem pe_splitG {o e : Expr} {to te : TE} {apos pos : Pos} (ho : PE X o to) (he : PE X e te) (hs : starEach [e] X.env = [(false, eval e X.env)] := by rfl) (hbase : attributeBase o "split" X.env (eval o X.env) = eval o X.env := by rfl) (hline : (apos.endLine == pos.line) = true := by rfl) :
    PE X (.Call (.Attribute o "split" apos) [e] [] pos) (tM1 rSplitG to te) :=
  pe_m1 F.slot_str_split F.type_str_split (mtr_imp mt_split fun x xs H Q ⟨a, b, e1, e2, h1, h2, n⟩ => ⟨a, b, e1, e2, h1, h2, n.at⟩) ho he hs hbase hline
end
/-! ### calls of the text's own defs -/
/-- a def that may be called by its name (no exception leaves it) -/
structure Cal (P : Program) (w : World) (K : PySem.W.Frag) (mg : Str → Option Value) (base : Heap) (k : Nat) (x : Str) (sp : Sp) : Prop where
  ex : ∃ (f : Addr) (fd : FuncData) (ps : List Str), FnOk P w K mg base CX0 k f fd ps sp ∧ mg x = some (.ref f) ∧ PySem.W.keepIn K (.ref f) = true ∧ Binds K fd ps []
section
variable {P : Program} {w : World} {K : PySem.W.Frag} {mg : Str → Option Value} {base : Heap}
theorem Cal.mono {j k : Nat} {x : Str} {sp : Sp} (c : Cal P w K mg base j x sp) (h : j ≤ k) : Cal P w K mg base k x sp := by
  obtain ⟨f, fd, ps, F, a, b, d⟩ := c.ex
  exact ⟨f, fd, ps, F.mono h, a, b, d⟩
theorem Cal.imp {k : Nat} {x : Str} {sp sp' : Sp} (c : Cal P w K mg base k x sp) (h : ∀ vs H Q E, sp' vs H Q E → sp vs H Q E) : Cal P w K mg base k x sp' := by
  obtain ⟨f, fd, ps, F, a, b, d⟩ := c.ex
  exact ⟨f, fd, ps, F.imp h, a, b, d⟩
theorem cal_mk {x : Str} {params : Arguments} {body : List Stmt} {scope : Scope} {f : Addr} {fd : FuncData} {N ps : List Str} {k : Nat} {sp : Sp} (F : FunD K x x params body scope [] [] f fd) (hm : mg x = some (.ref f)) (S : FnScope N ps scope)
    (b : Binds K fd ps []) (len : ∀ vs H Q E, sp vs H Q E → vs.length = ps.length)
    (hbody : ∀ (cdv : Value) (A : Around) (outer : List Env) (s : Shared) (H : Hp) (vs : List V) (Q : VK) (E : XK), Room k (A.deeper (envOfC x scope s.heap.objs.size f cdv)) → sp vs H Q E →
      ∃ t, PSs (cxOf CX0 P w K mg base N x scope f cdv A outer s H E) body t ∧ t { nx := fun _ H' => Q .non H', rt := Q } (start N vs) H) : Cal P w K mg base (k + 1) x sp :=
  ⟨f, fd, ps, F.ok S len hbody, hm, F.kp, b⟩
end
section
variable {X : Cx} {k : Nat} {x : Str} {sp : Sp} {p pos : Pos} {e : Expr} {es : List Expr} {t : TA}
theorem pe_cal (c : Cal X.prog X.w X.K X.mg X.base k x sp) (hr : Room k X.A) (hg : Gl X x) (ha : PA X (e :: es) t)
    (hdb : (x == ("__debug__" : Str)) = false := by decide) (he : starEach (e :: es) X.env = (false, eval e X.env) :: starEach es X.env := by rfl) (hpl : (backTo pos (starEach es X.env)).any (·.1) = false := by rfl) :
    PE X (.Call (.Name x p) (e :: es) [] pos) (tCall sp [] E0 t) := by
  obtain ⟨f, fd, ps, F, a, b, d⟩ := c.ex
  exact pe_call F hr hg a b d .nil pass0 ha hdb he hpl
end
/-- the slots at the entry: m of them -/
def startN (m : Nat) (vs : List V) : L2.St := vs.map some ++ List.replicate (m - vs.length) none
/-- what of a def is shown without the text: its reading, run at its parameters' values, keeps its promise -/
structure PureOk (n : Nat) (sp : Sp) (t : TS) (m : Nat) : Prop where
  len : ∀ vs H Q E, sp vs H Q E → vs.length = n
  run : ∀ vs H Q E, sp vs H Q E → t { nx := fun _ H' => Q .non H', rt := Q } (startN m vs) H
/-- a written table with text keys -/
def KTab (K : PySem.W.Frag) (w : World) (d : Addr) (kvs : List (Str × V)) : Prop := ∀ z : Str, KGet K w d z ((kvs.find? fun q => decide (q.1 = z)).map (·.2))

/-! ### readings, step by step -/
section
variable {K : PySem.W.Frag} {w : World} {D : Ends} {σ σ' : L2.St} {H : Hp} {Q : VK} {v x y : V} {i j : Int} {n : Nat} {ta tb tc te : TE} {t u : TS} {p a b : Addr} {xs ys : List V} {s z : Str}
theorem g_seq (h : t { D with nx := u D } σ H) : tSeq t u D σ H := h
theorem g_next (h : D.nx σ H) : tNext D σ H := h
theorem g_ret (h : te σ H D.rt) : tRet te D σ H := h
theorem g_drop (h : te σ H fun _ H1 => D.nx σ H1) : tDrop te D σ H := h
theorem g_ifs {c : TT} (h : c σ H fun b H1 => if b = true then t D σ H1 else u D σ H1) : tIfS c t u D σ H := h
theorem g_asg {g : TG} (h : te σ H fun x H1 => g x σ H1 D.nx) : tAsg te g D σ H := h
theorem g_par {k l : Nat} {ta : TA} (h : ta σ H fun vs H1 => ∃ v w, vs = [v, w] ∧ D.nx ((σ.set k (some v)).set l (some w)) H1) : tPar k l ta D σ H := h
theorem g_name {Q : L2.St → Hp → Prop} {k : Nat} (h : σ.set k (some v) = σ') (q : Q σ' H) : gName k v σ H Q := by subst h; exact q
theorem g_sub {to ti : TE} {ts : TSet} {Q : L2.St → Hp → Prop} (h : to σ H fun o H1 => ti σ H1 fun i H2 => ts o i v H2 fun H3 => Q σ H3) : gSub to ti ts v σ H Q := h
theorem g_var {k : Nat} (h : σ[k]? = some (some v)) (q : Q v H) : tVar k σ H Q := ⟨v, h, q⟩
theorem g_c (q : Q v H) : tC v σ H Q := q
theorem g_op {r : R2} (h : ta σ H fun x H1 => tb σ H1 fun y H2 => r x y H2 Q) : tOp r ta tb σ H Q := h
theorem g_ixop (h : ta σ H fun x H1 => tb σ H1 fun y H2 => rIxG K w x y H2 Q) : tIxG K w ta tb σ H Q := h
theorem g_un {r : V → Hp → VK → Prop} (h : ta σ H fun x H1 => r x H1 Q) : tUn r ta σ H Q := h
theorem g_neg (q : Q (.int (-i)) H) : rU (fun i => .int (-i)) (.int i) H Q := ⟨i, rfl, q⟩
theorem g_test {Q : Bool → Hp → Prop} (h : te σ H fun x H' => ∃ k, x = .bl k ∧ Q k H') : tTest te σ H Q := h
theorem g_not {c : TT} {Q : Bool → Hp → Prop} (h : c σ H fun c H1 => Q (!c) H1) : tNot c σ H Q := h
theorem g_and {c d : TT} {Q : Bool → Hp → Prop} (h : c σ H fun c H1 => if c = true then d σ H1 Q else Q false H1) : tAnd c d σ H Q := h
theorem g_or {c d : TT} {Q : Bool → Hp → Prop} (h : c σ H fun c H1 => if c = true then Q true H1 else d σ H1 Q) : tOr c d σ H Q := h
theorem g_tru {Q : Bool → Hp → Prop} (h : ta σ H fun x H' => ∃ k, TruV K x H' k ∧ Q k H') : tTru K ta σ H Q := h
theorem g_trubl {R : Bool → Prop} {k : Bool} (q : R k) : ∃ k', TruV K (.bl k) H k' ∧ R k' := ⟨k, rfl, q⟩
theorem g_truint {R : Bool → Prop} (q : R (i != 0)) : ∃ k', TruV K (.int i) H k' ∧ R k' := ⟨_, rfl, q⟩
theorem g_bl {R : Bool → Prop} {k : Bool} (q : R k) : ∃ k', V.bl k = .bl k' ∧ R k' := ⟨k, rfl, q⟩
theorem g_ifx {c : TT} (h : c σ H fun c H1 => if c = true then ta σ H1 Q else tb σ H1 Q) : tIf c ta tb σ H Q := h
theorem g_andT (h : ta σ H fun x H1 => ∃ k, TruV K x H1 k ∧ if k = true then tb σ H1 Q else Q x H1) : tAndT K ta tb σ H Q := h
theorem g_orT (h : ta σ H fun x H1 => ∃ k, TruV K x H1 k ∧ if k = true then Q x H1 else tb σ H1 Q) : tOrT K ta tb σ H Q := h
theorem g_notT (h : ta σ H fun x H1 => ∃ k, TruV K x H1 k ∧ Q (.bl (!k)) H1) : tNotT K ta σ H Q := h
theorem g_nil {Q : List V → Hp → Prop} (q : Q [] H) : tNil σ H Q := q
theorem g_cons {Q : List V → Hp → Prop} {tr : TA} (h : te σ H fun x H1 => tr σ H1 fun xs H2 => Q (x :: xs) H2) : tCons te tr σ H Q := h
theorem g_call {sp : Sp} {E : XK} {t : TA} (h : t σ H fun vs H1 => sp (vs ++ []) H1 Q E) : tCall sp [] E t σ H Q := h
theorem g_cb {r : List V → Hp → VK → Prop} {t : TA} (h : t σ H fun vs H1 => r vs H1 Q) : tCB r t σ H Q := h
theorem g_tup {t : TA} (h : t σ H fun xs H1 => xs.length ≤ sizeLine ∧ New H1 (.tup xs) fun p H2 => Q (.ref p) H2) : tTupN t σ H Q := h
theorem g_lst {t : TA} (h : t σ H fun xs H1 => xs.length ≤ sizeLine ∧ New H1 (.lst xs) fun p H2 => Q (.ref p) H2) : tLstN t σ H Q := h
theorem g_len {R : Prop} (hl : xs.length ≤ sizeLine) (q : R) : xs.length ≤ sizeLine ∧ R := ⟨hl, q⟩
theorem g_dnew (h : New H (.dK []) fun p H2 => Q (.ref p) H2) : tDNewKN σ H Q := h
theorem g_disp {trs : List (TE × TE)} (h : New H (.dK []) fun p H1 => tPairs trs σ H1 fun ps H2 => H2 p = some (.dK []) ∧ ∃ kvs : List (Key × V), ps = kvs.map (fun kv => (kV kv.1, kv.2)) ∧ kvs.length ≤ 15 ∧ Put H2 p (.dK (mergeK [] kvs)) fun H' => Q (.ref p) H') : tDispN trs σ H Q := h
theorem g_pnil {Q : List (V × V) → Hp → Prop} (q : Q [] H) : tPairs [] σ H Q := q
theorem g_pcons {Q : List (V × V) → Hp → Prop} {r : List (TE × TE)} (h : ta σ H fun x H1 => tb σ H1 fun y H2 => tPairs r σ H2 fun ps H3 => Q ((x, y) :: ps) H3) : tPairs ((ta, tb) :: r) σ H Q := h
theorem g_pairs {R : List (Key × V) → Prop} {ps : List (V × V)} (kvs : List (Key × V)) (hd : H p = some (.dK [])) (e : ps = kvs.map (fun kv => (kV kv.1, kv.2))) (hl : kvs.length ≤ 15) (q : R kvs) : H p = some (.dK []) ∧ ∃ kvs : List (Key × V), ps = kvs.map (fun kv => (kV kv.1, kv.2)) ∧ kvs.length ≤ 15 ∧ R kvs := ⟨hd, kvs, e, hl, q⟩
theorem g_get2 (h : ta σ H fun x H1 => ∃ a, x = .ref a ∧ IsD H1 a ∧ tb σ H1 fun y H2 => tc σ H2 fun z H3 => ∃ o, DGet H3 a y o ∧ Q (o.getD z) H3) : tDGet2 ta tb tc σ H Q := h
theorem g_isd {R : Addr → Prop} {kvs : List (Key × V)} (h : H p = some (.dK kvs)) (q : R p) : ∃ a, V.ref p = .ref a ∧ IsD H a ∧ R a := ⟨p, rfl, .inl ⟨kvs, .of h⟩, q⟩
theorem g_dget {R : Option V → Prop} {kvs : List (Key × V)} {k : Key} (h : H p = some (.dK kvs)) (e : x = kV k) (q : R (valV kvs k)) : ∃ o, DGet H p x o ∧ R o := ⟨_, .inl ⟨kvs, k, .of h, e, rfl⟩, q⟩
theorem g_bm {T : String} {r : V → List V → Hp → VK → Prop} {to : TE} {t : TA} (h : to σ H fun x H1 => tyV K T x H1 ∧ t σ H1 fun xs H2 => r x xs H2 Q) : tBM K T r to t σ H Q := h
theorem g_bm0 {T : String} {r : V → List V → Hp → VK → Prop} {to : TE} (h : to σ H fun x H1 => tyV K T x H1 ∧ r x [] H1 Q) : tBM0 K T r to σ H Q := h
theorem g_tyl {R : Prop} (h : SqL K H a xs) (q : R) : tyV K "list" (.ref a) H ∧ R := ⟨.inl ⟨rfl, xs, h⟩, q⟩
theorem g_m1 {r : V → List V → Hp → VK → Prop} {to te : TE} (h : to σ H fun x H1 => (∃ a, x = .str a) ∧ te σ H1 fun y H2 => r x [y] H2 Q) : tM1 r to te σ H Q := h
theorem g_isstr {R : Prop} (q : R) : (∃ a, V.str s = .str a) ∧ R := ⟨⟨s, rfl⟩, q⟩
/-- the operators by kinds -/
theorem g_addI (q : Q (.int (i + j)) H) : rAddG K (.int i) (.int j) H Q := .inl ⟨i, j, rfl, rfl, q⟩
theorem g_addS (hl : s.length + z.length ≤ sizeLine) (q : Q (.str (s ++ z)) H) : rAddG K (.str s) (.str z) H Q := .inr (.inl ⟨s, z, rfl, rfl, hl, q⟩)
theorem g_addL (h1 : H a = some (.lst xs)) (h2 : H b = some (.lst ys)) (hl : xs.length + ys.length ≤ sizeLine) (q : New H (.lst (xs ++ ys)) fun p H' => Q (.ref p) H') : rAddG K (.ref a) (.ref b) H Q := .inr (.inr (.inl ⟨a, b, xs, ys, rfl, rfl, h1, h2, hl, q⟩))
theorem g_subI (q : Q (.int (i - j)) H) : rSubG (.int i) (.int j) H Q := ⟨i, j, rfl, rfl, q⟩
theorem g_mulI (hc : CMul i j) (q : Q (.int (i * j)) H) : rMulG (.int i) (.int j) H Q := .inl ⟨i, j, rfl, rfl, hc, q⟩
theorem g_divI (hc : CDivW i j) (q : Q (.int (i / j)) H) : rDivG (.int i) (.int j) H Q := ⟨i, j, rfl, rfl, hc, q⟩
theorem g_modI (hc : 0 < j) (q : Q (.int (i % j)) H) : rModG (.int i) (.int j) H Q := ⟨i, j, rfl, rfl, hc, q⟩
theorem g_powI (hc : CPow i j) (q : Q (.int (i ^ j.toNat)) H) : rPowG (.int i) (.int j) H Q := ⟨i, j, rfl, rfl, hc, q⟩
theorem g_ltI (q : Q (.bl (decide (i < j))) H) : rLtG (.int i) (.int j) H Q := ⟨i, j, rfl, rfl, q⟩
theorem g_leI (q : Q (.bl (decide (i ≤ j))) H) : rLeG (.int i) (.int j) H Q := ⟨i, j, rfl, rfl, q⟩
theorem g_gtI (q : Q (.bl (decide (j < i))) H) : rGtG (.int i) (.int j) H Q := ⟨i, j, rfl, rfl, q⟩
theorem g_geI (q : Q (.bl (decide (j ≤ i))) H) : rGeG (.int i) (.int j) H Q := ⟨i, j, rfl, rfl, q⟩
theorem g_eqI (q : Q (.bl (decide (i = j))) H) : rEqG K (.int i) (.int j) H Q := .inl ⟨rfl, by rw [show decide (V.int i = V.int j) = decide (i = j) from by simp]; exact q⟩
theorem g_eqS (q : Q (.bl (decide (s = z))) H) : rEqG K (.str s) (.str z) H Q := .inl ⟨rfl, by rw [show decide (V.str s = V.str z) = decide (s = z) from by simp]; exact q⟩
theorem g_neI (q : Q (.bl (!decide (i = j))) H) : rNeG K (.int i) (.int j) H Q := .inl ⟨rfl, by rw [show decide (V.int i = V.int j) = decide (i = j) from by simp]; exact q⟩
theorem g_neS (q : Q (.bl (!decide (s = z))) H) : rNeG K (.str s) (.str z) H Q := .inl ⟨rfl, by rw [show decide (V.str s = V.str z) = decide (s = z) from by simp]; exact q⟩
theorem g_eqD {d e : PyData} (h1 : Dp K H x d) (h2 : Dp K H y e) (h3 : SeqAt.shaped d = true) (h4 : SeqAt.shaped e = true) (q : Q (.bl (PyData.eqv d e)) H) : rEqG K x y H Q := .inr (.inl ⟨d, e, h1, h2, h3, h4, q⟩)
theorem g_neD {d e : PyData} (h1 : Dp K H x d) (h2 : Dp K H y e) (h3 : SeqAt.shaped d = true) (h4 : SeqAt.shaped e = true) (q : Q (.bl (!PyData.eqv d e)) H) : rNeG K x y H Q := .inr (.inl ⟨d, e, h1, h2, h3, h4, q⟩)
theorem g_ixL (h : SqL K H p xs) (e : atI xs i = some v) (q : Q v H) : rIxG K w (.ref p) (.int i) H Q := .inl (.inl ⟨p, xs, i, v, rfl, rfl, h, e, q⟩)
theorem g_ixT (h : SqT K H p xs) (e : atI xs i = some v) (q : Q v H) : rIxG K w (.ref p) (.int i) H Q := .inl (.inr (.inl ⟨p, xs, i, v, rfl, rfl, h, e, q⟩))
theorem g_ixS {c : Nat} (hl : s.length ≤ sizeLine) (e : atI s.cps.toList i = some c) (q : Q (.str ⟨#[c]⟩) H) : rIxG K w (.str s) (.int i) H Q := .inl (.inr (.inr ⟨s, i, c, rfl, rfl, hl, e, q⟩))
theorem g_ixD {kvs : List (Key × V)} {k : Key} (h : H p = some (.dK kvs)) (hx : x = kV k) (e : valV kvs k = some v) (q : Q v H) : rIxG K w (.ref p) x H Q := .inr (.inl ⟨p, v, rfl, .inl ⟨kvs, k, .of h, hx, e.symm⟩, q⟩)
theorem g_setL {R : Hp → Prop} {k : Nat} (h : H p = some (.lst xs)) (e : ixN xs.length i = some k) (q : Put H p (.lst (xs.set k v)) R) : rSetG (.ref p) (.int i) v H R := .inl ⟨p, xs, i, k, rfl, rfl, h, e, q⟩
theorem g_setK {R : Hp → Prop} {kvs : List (Key × V)} {k : Key} (h : H p = some (.dK kvs)) (e : x = kV k) (hl : kvs.length < sizeLine) (q : Put H p (.dK (putK kvs k v)) R) : rSetG (.ref p) x v H R := .inr ⟨p, kvs, k, rfl, h, e, hl, q⟩
theorem g_lenL (h : SqL K H p xs) (q : Q (.int xs.length) H) : rLenG K [.ref p] H Q := .inl ⟨.ref p, xs.length, rfl, .inl ⟨xs, h, rfl⟩, q⟩
theorem g_lenT (h : SqT K H p xs) (q : Q (.int xs.length) H) : rLenG K [.ref p] H Q := .inl ⟨.ref p, xs.length, rfl, .inr ⟨xs, h, rfl⟩, q⟩
theorem g_lenS (h : s.length ≤ sizeLine) (q : Q (.int s.length) H) : rLenG K [.str s] H Q := .inl ⟨.str s, s.length, rfl, ⟨h, rfl⟩, q⟩
theorem g_abs (q : Q (.int i.natAbs) H) : rAbsG [.int i] H Q := ⟨i, rfl, by rw [show (if i < 0 then -i else i) = (i.natAbs : Int) from by split <;> omega]; exact q⟩
theorem g_max2 (q : Q (.int (max i j)) H) : rMax2 [.int i, .int j] H Q := ⟨i, j, rfl, by rw [show (if j > i then j else i) = max i j from by split <;> omega]; exact q⟩
theorem g_min2 (q : Q (.int (min i j)) H) : rMin2 [.int i, .int j] H Q := ⟨i, j, rfl, by rw [show (if j < i then j else i) = min i j from by split <;> omega]; exact q⟩
theorem g_intI (q : Q (.int i) H) : rIntG [.int i] H Q := .inl ⟨i, rfl, q⟩
theorem g_intB {k : Bool} (q : Q (.int (if k then 1 else 0)) H) : rIntG [.bl k] H Q := .inr ⟨k, rfl, q⟩
theorem g_listL (h : SqL K H p xs) (q : New H (.lst xs) fun l H' => Q (.ref l) H') : rListG K [.ref p] H Q := .inl ⟨p, xs, rfl, .inl h, q⟩
theorem g_listT (h : SqT K H p xs) (q : New H (.lst xs) fun l H' => Q (.ref l) H') : rListG K [.ref p] H Q := .inl ⟨p, xs, rfl, .inr h, q⟩
theorem g_tupleL (h : SqL K H p xs) (q : New H (.tup xs) fun l H' => Q (.ref l) H') : rTupleG K [.ref p] H Q := ⟨p, xs, rfl, .inl ⟨h, q⟩⟩
theorem g_tupleT (h : SqT K H p xs) (q : Q (.ref p) H) : rTupleG K [.ref p] H Q := ⟨p, xs, rfl, .inr ⟨h, q⟩⟩
theorem g_append (h : H a = some (.lst xs)) (hl : xs.length < sizeLine) (q : Put H a (.lst (xs ++ [v])) fun H' => Q .non H') : rAppendG (.ref a) [v] H Q := ⟨a, xs, v, rfl, rfl, h, hl, q⟩
theorem g_extend (h : H a = some (.lst xs)) (h2 : H b = some (.lst ys)) (hl : xs.length + ys.length ≤ sizeLine) (q : Put H a (.lst (xs ++ ys)) fun H' => Q .non H') : rExtendG (.ref a) [.ref b] H Q := ⟨a, b, xs, ys, rfl, rfl, h, h2, hl, q⟩
theorem g_pop (h : H a = some (.lst (xs ++ [v]))) (q : Put H a (.lst xs) fun H' => Q v H') : rPopG (.ref a) [] H Q := ⟨a, xs ++ [v], v, rfl, rfl, h, by simp, by simpa using q⟩
/-- a common rest of several ways -/
structure Rest (B : Prop) : Prop where
  out : B
theorem g_cut {A B : Prop} (f : Rest B → A) (b : B) : A := f ⟨b⟩
/-- the slices -/
theorem g_sl {r : V → Option Int → Option Int → Hp → VK → Prop} {tl th : TO} (h : te σ H fun x H1 => tl σ H1 fun l H2 => th σ H2 fun u H3 => r x l u H3 Q) : tSl r te tl th σ H Q := h
theorem g_nopart {Q : Option Int → Hp → Prop} (q : Q none H) : tNoPart σ H Q := q
theorem g_part {Q : Option Int → Hp → Prop} (h : te σ H fun x H1 => ∃ i, x = .int i ∧ Q (some i) H1) : tPart te σ H Q := h
theorem g_ispart {R : Int → Prop} (q : R i) : ∃ i', V.int i = .int i' ∧ R i' := ⟨i, rfl, q⟩
theorem g_slL {lo hi : Option Int} (h : SqL K H p xs) (q : New H (.lst (cutV xs lo hi)) fun l H' => Q (.ref l) H') : rSlG K (.ref p) lo hi H Q := .inl ⟨p, xs, rfl, h, q⟩
theorem g_slT {lo hi : Option Int} (h : SqT K H p xs) (hw : ¬ (HT.sIx xs.length 0 lo = 0 ∧ HT.sIx xs.length xs.length hi = xs.length)) (q : New H (.tup (cutV xs lo hi)) fun l H' => Q (.ref l) H') : rSlG K (.ref p) lo hi H Q :=
  .inr (.inl ⟨p, xs, rfl, h, fun e => absurd e hw, fun _ => q⟩)
theorem g_slS {lo hi : Option Int} (hl : s.length ≤ sizeLine) (q : Q (.str (cutS s lo hi)) H) : rSlG K (.str s) lo hi H Q := .inr (.inr ⟨s, rfl, hl, q⟩)
theorem g_rev (h : ta σ H fun x H1 => ∃ a xs, x = .ref a ∧ SqL K H1 a xs ∧ New H1 (.lst xs.reverse) fun p H' => Q (.ref p) H') : tRevG K ta σ H Q := h
theorem g_revL {R : List V → Prop} (h : SqL K H a xs) (q : R xs) : ∃ a' xs, V.ref a = .ref a' ∧ SqL K H a' xs ∧ R xs := ⟨a, xs, rfl, h, q⟩
/-- tests -/
theorem g_T {A B : Prop} {b : Bool} (hb : b = true) (h : A) : if b = true then A else B := by rw [if_pos hb]; exact h
theorem g_F {A B : Prop} {b : Bool} (hb : b = false) (h : B) : if b = true then A else B := by rw [if_neg (by rw [hb]; decide)]; exact h
theorem g_ite {A B : Prop} {b : Bool} (h1 : b = true → A) (h2 : b = false → B) : if b = true then A else B := by
  cases b
  · exact h2 rfl
  · exact h1 rfl
end

section
variable {K : PySem.W.Frag} {w : World} {H : Hp} {v : V} {i j : Int} {p a b : Addr} {xs ys : List V} {Q : VK}
theorem Chg.refl : Chg p H H := fun _ _ _ e => e
theorem Chg.trans {H1 H2 : Hp} (h : Chg p H H1) (h' : Chg p H1 H2) : Chg p H H2 := fun b o n e => h' b o n (h b o n e)
theorem Chg.same {H1 : Hp} (h : Same H H1) : Chg p H H1 := fun b o _ e => h b o e
/-- changes at a new object are none of the old ones -/
theorem Same.chg {H1 H2 : Hp} (h : Same H H1) (hp : H p = none) (c : Chg p H1 H2) : Same H H2 := fun b o e => c b o (ne_of_none e hp) (h b o e)
theorem atI_of {α : Type} {xs : List α} {i : Int} {v : α} (h0 : 0 ≤ i) (h : xs[i.toNat]? = some v) : atI xs i = some v := by
  have := atI_nat h
  rwa [Int.toNat_of_nonneg h0] at this
theorem atI_in {α : Type} {xs : List α} {i : Int} (h0 : 0 ≤ i) (h1 : i < xs.length) : ∃ v, atI xs i = some v ∧ v ∈ xs ∧ xs[i.toNat]? = some v := by
  have h2 : i.toNat < xs.length := by omega
  exact ⟨xs[i.toNat], atI_of h0 (List.getElem?_eq_getElem h2), List.getElem_mem h2, List.getElem?_eq_getElem h2⟩
end
/-! ### loops and comprehensions, by what holds at their turns -/
section
variable {K : PySem.W.Frag} {w : World} {H : Hp} {Q : VK} {p : Addr} {ss : List Str} {k : Str}
theorem inV_str : ∀ ss : List Str, inV (.str k) (ss.map V.str) = decide (k ∈ ss)
  | [] => by simp [inV]
  | s :: ss => by
    have ih := inV_str ss
    unfold inV at ih ⊢
    rw [List.map_cons, List.any_cons, ih]
    show (s == k || decide (k ∈ ss)) = _
    by_cases e : s = k
    · subst e; simp
    · have e' : ¬ k = s := fun z => e z.symm
      rw [show (s == k) = false from by simp [e]]
      simp [e']
theorem flat_strs : ∀ ss : List Str, (ss.map V.str).all flatV = true
  | [] => rfl
  | s :: ss => by rw [List.map_cons, List.all_cons, flat_strs ss]; rfl
theorem g_inT (h : SqT K H p (ss.map V.str)) (q : Q (.bl (decide (k ∈ ss))) H) : rInG K w false (.str k) (.ref p) H Q :=
  .inl ⟨p, ss.map V.str, rfl, .inr h, rfl, flat_strs ss, by rw [inV_str]; exact q⟩
theorem g_inL (h : SqL K H p (ss.map V.str)) (q : Q (.bl (decide (k ∈ ss))) H) : rInG K w false (.str k) (.ref p) H Q :=
  .inl ⟨p, ss.map V.str, rfl, .inl h, rfl, flat_strs ss, by rw [inV_str]; exact q⟩
theorem g_isi {x : V} {a b : String} {r : Bool} (ty : TyOf K H x (.type a)) (h : kitB a b = some r) (q : Q (.bl r) H) : rIsiG K [x, .ty b] H Q := ⟨x, .ty b, .type a, .type b, r, rfl, .ty b, .base ty, kit_ty h, q⟩
end
/-! what is walked -/
section
variable {K : PySem.W.Frag} {te : TE} {ta : TA} {σ : L2.St} {H : Hp} {R : It → Hp → Prop} {n : Int} {p : Addr} {xs : List V} {x : Str}
theorem g_rng1 (h : ta σ H fun vs H1 => ∃ j : Int, vs = [.int j] ∧ -(2 ^ 62) ≤ j ∧ j < 2 ^ 62 ∧ R (Itr 0 j.toNat) H1) : iRng1 ta σ H R := h
theorem g_isrng {R : Int → Prop} (h1 : -(2 ^ 62) ≤ n) (h2 : n < 2 ^ 62) (q : R n) : ∃ j : Int, [V.int n] = [.int j] ∧ -(2 ^ 62) ≤ j ∧ j < 2 ^ 62 ∧ R j := ⟨n, rfl, h1, h2, q⟩
theorem g_seqL (h : te σ H fun x H1 => ∃ a, x = .ref a ∧ (∃ xs, SqL K H1 a xs) ∧ R (Itl K a) H1) : iSeq K te σ H R := .inl h
theorem g_seqT (h : te σ H fun x H1 => ∃ a, x = .ref a ∧ (∃ xs, SqT K H1 a xs) ∧ R (Itt K a) H1) : iSeq K te σ H R := .inr (.inl h)
theorem g_isL {R : Addr → Prop} (h : SqL K H p xs) (q : R p) : ∃ a, V.ref p = .ref a ∧ (∃ xs, SqL K H a xs) ∧ R a := ⟨p, rfl, ⟨xs, h⟩, q⟩
theorem g_isT {R : Addr → Prop} (h : SqT K H p xs) (q : R p) : ∃ a, V.ref p = .ref a ∧ (∃ xs, SqT K H a xs) ∧ R a := ⟨p, rfl, ⟨xs, h⟩, q⟩
theorem g_isS {R : Str → Prop} (q : R x) : ∃ y, V.str x = .str y ∧ R y := ⟨x, rfl, q⟩
def LcW (J : It) (g : TG) (tt : TT) (te : TE) (vs : List Nat) (σ : L2.St) (H1 : Hp) (D : Addr) (Qd : Hp → Prop) : Prop := ∃ W : Nat → Nat → Hp → Prop, (∃ m, W 0 m (upd H1 D (.lst []))) ∧ ∀ i m H, W i m H →
  (J.stop i H ∧ Qd H) ∨ (J.go i H ∧ ∃ Nx : Hp → Prop, (∀ H', Nx H' → ∃ m', m' < m ∧ W (i + 1) m' H') ∧ ∀ x H', J.yld i H x H' → g x (wipe σ vs) H' fun σ2 H2 => wipe σ2 vs = wipe σ vs ∧ tt σ2 H2 fun b H3 =>
    if b = true then te σ2 H3 fun y H4 => ∃ acc, H4 D = some (.lst acc) ∧ acc.length < sizeLine ∧ Nx (upd H4 D (.lst (acc ++ [y]))) else Nx H3)
def LcR (J : It) (g : TG) (tt : TT) (te : TE) (vs : List Nat) (σ : L2.St) (H1 : Hp) (R : Addr → Hp → Prop) : Prop := ∀ D, H1 D = none → LcW J g tt te vs σ H1 D (R D)
def ForW (J : It) (g : TG) (tb : TS) (D : Ends) (σ : L2.St) (H1 : Hp) : Prop := ∃ W : Nat → Nat → L2.St → Hp → Prop, (∃ m, W 0 m σ H1) ∧ ∀ i m σ H, W i m σ H →
  (J.stop i H ∧ D.nx σ H) ∨ (J.go i H ∧ ∃ N : L2.St → Hp → Prop, (∀ σ' H', N σ' H' → ∃ m', m' < m ∧ W (i + 1) m' σ' H') ∧ ∀ x H', J.yld i H x H' → g x σ H' fun σ2 H2 => tb { D with nx := N, ct := N, bk := D.nx } σ2 H2)
theorem g_lc {g : TG} {tt : TT} {vs : List Nat} {wi : TI} {Q : VK} (h : wi σ H fun J H1 => LcR J g tt te vs σ H1 fun D H => Q (.ref D) H) : tLc wi g tt te vs σ H Q := h
theorem g_for {g : TG} {wi : TI} {tb : TS} {D : Ends} (h : wi σ H fun J H1 => ForW J g tb D σ H1) : tFor wi g tb D σ H := h
theorem g_yes {Q : Bool → Hp → Prop} (q : Q true H) : tYes σ H Q := q
end
section
variable {J : It} {g : TG} {tb : TS} {D : Ends} {σ : L2.St} {H H1 : Hp} {tt : TT} {te : TE} {vs : List Nat} {d : Addr} {Qd : Hp → Prop}
theorem for_any (n : Nat) (Pv : Nat → L2.St → Hp → Prop) (h0 : Pv 0 σ H) (hgo : ∀ i σ H, i < n → Pv i σ H → J.go i H) (hstop : ∀ σ H, Pv n σ H → J.stop n H)
    (hs : ∀ i x σ H H', i < n → Pv i σ H → J.yld i H x H' → g x σ H' fun σ2 H2 => tb { D with nx := Pv (i + 1), ct := Pv (i + 1), bk := D.nx } σ2 H2) (hd : ∀ σ H, Pv n σ H → D.nx σ H) :
    ForW J g tb D σ H := by
  refine ⟨fun i m σ H => Pv i σ H ∧ i ≤ n ∧ m = n - i, ⟨n, h0, Nat.zero_le _, rfl⟩, fun i m σ H ⟨hp, hi, hm⟩ => ?_⟩
  by_cases hin : i = n
  · subst hin
    exact .inl ⟨hstop _ _ hp, hd _ _ hp⟩
  · have hlt : i < n := by omega
    exact .inr ⟨hgo _ _ _ hlt hp, Pv (i + 1), fun σ' H' h' => ⟨n - (i + 1), by omega, h', hlt, rfl⟩, fun x H' hy => hs i x σ H H' hlt hp hy⟩
/-- the list at d behind the i-th turn -/
def NxR (R : Nat → List V → Hp → Prop) (d : Addr) (i : Nat) (H : Hp) : Prop := ∃ acc, H d = some (.lst acc) ∧ acc.length ≤ i ∧ R i acc H
theorem lc_step {R : Nat → List V → Hp → Prop} {i : Nat} {acc : List V} {y : V} (h : H d = some (.lst acc)) (hl : acc.length ≤ i) (hi : i < sizeLine) (q : Put H d (.lst (acc ++ [y])) fun H5 => R (i + 1) (acc ++ [y]) H5) :
    ∃ acc, H d = some (.lst acc) ∧ acc.length < sizeLine ∧ NxR R d (i + 1) (upd H d (.lst (acc ++ [y]))) :=
  ⟨acc, h, Nat.lt_of_le_of_lt hl hi, acc ++ [y], upd_same, by rw [List.length_append, List.length_singleton]; omega, q.at⟩
theorem lc_any (n : Nat) (R : Nat → List V → Hp → Prop) (hD : H1 d = none) (h0 : ∀ H', H' d = some (.lst []) → Same H1 H' → R 0 [] H') (hgo : ∀ i acc H, i < n → R i acc H → J.go i H) (hstop : ∀ acc H, R n acc H → J.stop n H)
    (hs : ∀ i x acc H H', i < n → acc.length ≤ i → R i acc H → H d = some (.lst acc) → J.yld i H x H' → g x (wipe σ vs) H' fun σ2 H2 => wipe σ2 vs = wipe σ vs ∧ tt σ2 H2 fun b H3 =>
      if b = true then te σ2 H3 fun y H4 => ∃ acc, H4 d = some (.lst acc) ∧ acc.length < sizeLine ∧ NxR R d (i + 1) (upd H4 d (.lst (acc ++ [y]))) else NxR R d (i + 1) H3)
    (hd : ∀ acc H, H d = some (.lst acc) → R n acc H → Qd H) :
    LcW J g tt te vs σ H1 d Qd := by
  refine ⟨fun i m H => NxR R d i H ∧ i ≤ n ∧ m = n - i, ⟨n, ⟨[], upd_same, Nat.le_refl _, h0 _ upd_same (same_upd hD)⟩, Nat.zero_le _, rfl⟩, fun i m H ⟨⟨acc, ha, hl, hr⟩, hi, hm⟩ => ?_⟩
  by_cases hin : i = n
  · subst hin
    exact .inl ⟨hstop _ _ hr, hd _ _ ha hr⟩
  · have hlt : i < n := by omega
    exact .inr ⟨hgo _ _ _ hlt hr, NxR R d (i + 1), fun H' h' => ⟨n - (i + 1), by omega, h', hlt, rfl⟩, fun x H' hy => hs i x acc H H' hlt hl hr ha hy⟩
end

/-! ### data of tuples alone -/
mutual
inductive Tp (H : Hp) : V → PyData → Prop
  | non : Tp H .non .none
  | bl (b : Bool) : Tp H (.bl b) (.bool b)
  | int (i : Int) : Tp H (.int i) (.int i)
  | str (x : Str) : Tp H (.str x) (.str x)
  | tup {a : Addr} {xs : List V} {ds : List PyData} : H a = some (.tup xs) → Tps H xs ds → Tp H (.ref a) (.tuple ds)
inductive Tps (H : Hp) : List V → List PyData → Prop
  | nil : Tps H [] []
  | cons {v : V} {vs : List V} {d : PyData} {ds : List PyData} : Tp H v d → Tps H vs ds → Tps H (v :: vs) (d :: ds)
end
/-- the tuples stay -/
def Tk (H H' : Hp) : Prop := ∀ b xs, H b = some (.tup xs) → H' b = some (.tup xs)
theorem Tk.refl (H : Hp) : Tk H H := fun _ _ e => e
theorem Tk.trans {H H1 H2 : Hp} (a : Tk H H1) (b : Tk H1 H2) : Tk H H2 := fun c xs e => b c xs (a c xs e)
theorem Same.tk {H H' : Hp} (s : Same H H') : Tk H H' := fun b xs e => s b _ e
theorem Chg.tk {H H' : Hp} {a : Addr} (c : Chg a H H') (h : ∀ xs, H a ≠ some (.tup xs)) : Tk H H' := fun b xs e => c b _ (fun z => h xs (z ▸ e)) e
theorem Chg.tkl {H H' : Hp} {a : Addr} {ys : List V} (c : Chg a H H') (h : H a = some (.lst ys)) : Tk H H' := c.tk fun xs e => by rw [h] at e; cases e
mutual
theorem Tp.mono {H H' : Hp} (k : Tk H H') : ∀ {d : PyData} {v : V}, Tp H v d → Tp H' v d
  | .none, _, h => by cases h; exact .non
  | .bool b, _, h => by cases h; exact .bl b
  | .int i, _, h => by cases h; exact .int i
  | .str x, _, h => by cases h; exact .str x
  | .tuple ds, _, h => by
    cases h with
    | tup e r => exact .tup (k _ _ e) (Tps.mono k r)
  | .list ds, _, h => by cases h
  | .dict ds, _, h => by cases h
theorem Tps.mono {H H' : Hp} (k : Tk H H') : ∀ {ds : List PyData} {vs : List V}, Tps H vs ds → Tps H' vs ds
  | [], _, h => by cases h; exact .nil
  | d :: ds, _, h => by
    cases h with
    | cons a b => exact .cons (Tp.mono k a) (Tps.mono k b)
end
mutual
theorem Tp.dp {K : PySem.W.Frag} {H : Hp} : ∀ {d : PyData} {v : V}, Tp H v d → Dp K H v d
  | .none, _, h => by cases h; exact .non
  | .bool b, _, h => by cases h; exact .bl b
  | .int i, _, h => by cases h; exact .int i
  | .str x, _, h => by cases h; exact .str x
  | .tuple ds, _, h => by
    cases h with
    | tup e r => exact .tup (.of e) (Tps.dp r)
  | .list ds, _, h => by cases h
  | .dict ds, _, h => by cases h
theorem Tps.dp {K : PySem.W.Frag} {H : Hp} : ∀ {ds : List PyData} {vs : List V}, Tps H vs ds → DpAll K H vs ds
  | [], _, h => by cases h; exact .nil
  | d :: ds, _, h => by
    cases h with
    | cons a b => exact .cons (Tp.dp a) (Tps.dp b)
end
section
variable {H : Hp} {xs ys : List V} {ds es : List PyData} {v : V} {d : PyData}
theorem Tps.length : ∀ {xs : List V} {ds : List PyData}, Tps H xs ds → xs.length = ds.length
  | [], _, h => by cases h; rfl
  | x :: xs, _, h => by
    cases h with
    | cons a b => rw [List.length_cons, List.length_cons, Tps.length b]
theorem Tps.append : ∀ {xs : List V} {ds : List PyData}, Tps H xs ds → Tps H ys es → Tps H (xs ++ ys) (ds ++ es)
  | [], _, h, h2 => by cases h; exact h2
  | x :: xs, _, h, h2 => by
    cases h with
    | cons a b => exact .cons a (Tps.append b h2)
theorem Tps.one (h : Tp H v d) : Tps H [v] [d] := .cons h .nil
theorem Tps.get : ∀ {xs : List V} {ds : List PyData} {i : Nat} {v : V}, Tps H xs ds → xs[i]? = some v → ∃ d, ds[i]? = some d ∧ Tp H v d
  | [], _, i, v, _, e => by simp at e
  | x :: xs, _, 0, v, h, e => by
    cases h with
    | cons a b =>
      simp only [List.getElem?_cons_zero, Option.some.injEq] at e
      subst e
      exact ⟨_, rfl, a⟩
  | x :: xs, _, i + 1, v, h, e => by
    cases h with
    | cons a b =>
      rw [List.getElem?_cons_succ] at e
      obtain ⟨d, h1, h2⟩ := Tps.get b e
      exact ⟨d, by rw [List.getElem?_cons_succ]; exact h1, h2⟩
theorem Tps.at : ∀ {xs : List V} {ds : List PyData} {i : Nat} {d : PyData}, Tps H xs ds → ds[i]? = some d → ∃ v, xs[i]? = some v ∧ Tp H v d
  | xs, [], i, d, _, e => by simp at e
  | _, d0 :: ds, 0, d, h, e => by
    cases h with
    | cons a b =>
      simp only [List.getElem?_cons_zero, Option.some.injEq] at e
      subst e
      exact ⟨_, rfl, a⟩
  | _, d0 :: ds, i + 1, d, h, e => by
    cases h with
    | cons a b =>
      rw [List.getElem?_cons_succ] at e
      obtain ⟨v, h1, h2⟩ := Tps.at b e
      exact ⟨v, by rw [List.getElem?_cons_succ]; exact h1, h2⟩
theorem Tps.take : ∀ {xs : List V} {ds : List PyData} (n : Nat), Tps H xs ds → Tps H (xs.take n) (ds.take n)
  | _, _, 0, _ => .nil
  | [], _, n + 1, h => by cases h; exact .nil
  | x :: xs, _, n + 1, h => by
    cases h with
    | cons a b => exact .cons a (Tps.take n b)
theorem Tps.drop : ∀ {xs : List V} {ds : List PyData} (n : Nat), Tps H xs ds → Tps H (xs.drop n) (ds.drop n)
  | _, _, 0, h => h
  | [], _, n + 1, h => by cases h; exact .nil
  | x :: xs, _, n + 1, h => by
    cases h with
    | cons a b => exact Tps.drop n b
theorem Tps.reverse : ∀ {xs : List V} {ds : List PyData}, Tps H xs ds → Tps H xs.reverse ds.reverse
  | [], _, h => by cases h; exact .nil
  | x :: xs, _, h => by
    cases h with
    | cons a b =>
      rw [List.reverse_cons, List.reverse_cons]
      exact Tps.append (Tps.reverse b) (.one a)
theorem Tps.strs : ∀ ss : List Str, Tps H (ss.map V.str) (ss.map PyData.str)
  | [] => .nil
  | s :: ss => .cons (.str s) (Tps.strs ss)
theorem Tps.ints : ∀ ss : List Int, Tps H (ss.map V.int) (ss.map PyData.int)
  | [] => .nil
  | s :: ss => .cons (.int s) (Tps.ints ss)
end
def isName (s : Str) : Prop := 1 ≤ s.length ∧ s.length ≤ 8 ∧ ∀ c ∈ s.cps.toList, 97 ≤ c ∧ c < 123
/-! ### parts -/
inductive K1 | left | right
  deriving DecidableEq
def K1.word : K1 → Str
  | .left => "left"
  | .right => "right"
inductive K2 | give | plus | less | times | below | pair
  deriving DecidableEq
def K2.word : K2 → Str
  | .give => "give"
  | .plus => "plus"
  | .less => "less"
  | .times => "times"
  | .below => "below"
  | .pair => "pair"
mutual
inductive Part
  | num (n : Int) | name (x : Str) | fn (f : Str) | one (k : K1) (a : Part) | two (k : K2) (a b : Part) | whn (a b c : Part) | letp (r : Rows) (a : Part) | shut (a : Part)
inductive Rows
  | nil | cons (x : Str) (a : Part) (r : Rows)
end
mutual
def Part.data : Part → PyData
  | .num n => .tuple [.str "number", .int n]
  | .name x => .tuple [.str "name", .str x]
  | .fn f => .tuple [.str "fun", .str f]
  | .one k a => .tuple [.str k.word, a.data]
  | .two k a b => .tuple [.str k.word, a.data, b.data]
  | .whn a b c => .tuple [.str "when", a.data, b.data, c.data]
  | .letp r a => .tuple [.str "let", .tuple r.datas, a.data]
  | .shut a => .tuple [.str "shut", a.data]
def Rows.datas : Rows → List PyData
  | .nil => []
  | .cons x a r => .tuple [.str x, a.data] :: r.datas
end
mutual
/-- how many parts -/
def Part.size : Part → Nat
  | .num _ => 1
  | .name _ => 1
  | .fn _ => 1
  | .one _ a => 1 + a.size
  | .two _ a b => 1 + (a.size + b.size)
  | .whn a b c => 1 + (a.size + (b.size + c.size))
  | .letp r a => 1 + (r.size + a.size)
  | .shut _ => 1
def Rows.size : Rows → Nat
  | .nil => 0
  | .cons _ a r => a.size + r.size
end
mutual
def Part.deep : Part → Nat
  | .num _ => 1
  | .name _ => 1
  | .fn _ => 1
  | .one _ a => 1 + a.deep
  | .two _ a b => 1 + max a.deep b.deep
  | .whn a b c => 1 + max a.deep (max b.deep c.deep)
  | .letp r a => 1 + max r.deep a.deep
  | .shut _ => 1
def Rows.deep : Rows → Nat
  | .nil => 0
  | .cons _ a r => max a.deep r.deep
end
def Rows.names : Rows → List Str
  | .nil => []
  | .cons x _ r => x :: r.names
def Rows.parts : Rows → List Part
  | .nil => []
  | .cons _ a r => a :: r.parts
def Rows.app : Rows → Rows → Rows
  | .nil, s => s
  | .cons x a r, s => .cons x a (r.app s)
def Part.kids : Part → List Part
  | .num _ => []
  | .name _ => []
  | .fn _ => []
  | .one _ a => [a]
  | .two _ a b => [a, b]
  | .whn a b c => [a, b, c]
  | .letp r a => r.parts ++ [a]
  | .shut _ => []
mutual
/-- the names of the rows of all lets, in the order of places -/
def Part.rowNames : Part → List Str
  | .num _ => []
  | .name _ => []
  | .fn _ => []
  | .one _ a => a.rowNames
  | .two _ a b => a.rowNames ++ b.rowNames
  | .whn a b c => a.rowNames ++ (b.rowNames ++ c.rowNames)
  | .letp r a => r.names ++ (r.rowNames ++ a.rowNames)
  | .shut _ => []
def Rows.rowNames : Rows → List Str
  | .nil => []
  | .cons _ a r => a.rowNames ++ r.rowNames
end
mutual
/-- a part of a program: names in scope, funs there, small numbers, one to four rows -/
def Part.ok (fs : List Str) : List Str → Part → Prop
  | sc, .num n => n.natAbs < 10 ^ 60
  | sc, .name x => x ∈ sc ∧ isName x
  | sc, .fn f => f ∈ fs ∧ isName f
  | sc, .one _ a => a.ok fs sc
  | sc, .two _ a b => a.ok fs sc ∧ b.ok fs sc
  | sc, .whn a b c => a.ok fs sc ∧ b.ok fs sc ∧ c.ok fs sc
  | sc, .letp r a => r.names.length ≤ 4 ∧ r.names ≠ [] ∧ (∀ x ∈ r.names, isName x) ∧ r.ok fs (sc ++ r.names) ∧ a.ok fs (sc ++ r.names)
  | _, .shut _ => False
def Rows.ok (fs : List Str) : List Str → Rows → Prop
  | _, .nil => True
  | sc, .cons _ a r => a.ok fs sc ∧ r.ok fs sc
end
theorem Rows.app_datas : ∀ r s : Rows, (r.app s).datas = r.datas ++ s.datas
  | .nil, s => rfl
  | .cons x a r, s => by
    show _ :: (r.app s).datas = _
    rw [Rows.app_datas r s]
    rfl
theorem Rows.app_names : ∀ r s : Rows, (r.app s).names = r.names ++ s.names
  | .nil, s => rfl
  | .cons x a r, s => by
    show _ :: (r.app s).names = _
    rw [Rows.app_names r s]
    rfl
theorem Rows.app_size : ∀ r s : Rows, (r.app s).size = r.size + s.size
  | .nil, s => by show s.size = 0 + s.size; omega
  | .cons x a r, s => by
    show _ + (r.app s).size = _ + r.size + _
    rw [Rows.app_size r s]
    omega
theorem Rows.app_deep : ∀ r s : Rows, (r.app s).deep = max r.deep s.deep
  | .nil, s => by show s.deep = max 0 s.deep; omega
  | .cons x a r, s => by
    show max _ (r.app s).deep = max (max _ r.deep) _
    rw [Rows.app_deep r s]
    omega
theorem Rows.app_rowNames : ∀ r s : Rows, (r.app s).rowNames = r.rowNames ++ s.rowNames
  | .nil, s => rfl
  | .cons x a r, s => by
    show _ ++ (r.app s).rowNames = (_ ++ r.rowNames) ++ _
    rw [Rows.app_rowNames r s, List.append_assoc]
theorem Rows.app_ok {fs : List Str} : ∀ {sc : List Str} {r s : Rows}, r.ok fs sc → s.ok fs sc → (r.app s).ok fs sc
  | sc, .nil, s, _, h => h
  | sc, .cons x a r, s, h, h2 => ⟨h.1, Rows.app_ok h.2 h2⟩

/-! ### written tables, from what the top has left -/
theorem keys_miss {P : Params} {z : Str} : ∀ {l : List DictEntry} {ks : List Str}, l.map He.keyOf = He.keysIn P ks → z ∉ ks → l.find? (·.key.isStr z) = none ∧ l.any (·.refKey) = false
  | [], _, _, _ => ⟨rfl, rfl⟩
  | e :: r, [], h, _ => by cases h
  | e :: r, k :: ks, h, hz => by
    have h1 : He.keyOf e :: r.map He.keyOf = some (k, PyData.keyHash P k) :: He.keysIn P ks := h
    injection h1 with h2 h3
    obtain ⟨i1, i2⟩ := keys_miss h3 fun m => hz (List.mem_cons_of_mem _ m)
    unfold He.keyOf at h2
    split at h2
    · rename_i x t q
      obtain ⟨h5, h6⟩ := Prod.mk.inj (Option.some.inj h2)
      have hne : ¬ x = z := fun e => hz (by rw [← e, h5]; exact List.mem_cons_self ..)
      refine ⟨?_, ?_⟩
      · rw [List.find?_cons, show e.key.isStr z = false from by rw [q, PySem.W.isStr_of]; show (x == z) = false; simp [hne]]
        exact i1
      · rw [List.any_cons, i2, Bool.or_false]
        unfold DictEntry.refKey
        rw [q]
    · cases h2
theorem ktab_of {K : PySem.W.Frag} {w : World} {a : Addr} {kvs : List (Str × He.Dv)} (h : He.dicW K a = some (He.keysIn w.params (kvs.map (·.1)))) (hv : He.valsB K a kvs = true) : KTab K w a (kvs.map fun q => (q.1, q.2.v K)) := by
  intro z
  obtain ⟨es, n, D⟩ := He.dicW_ok h
  refine ⟨es, n, D, ?_⟩
  by_cases hz : z ∈ kvs.map (·.1)
  · right
    obtain ⟨q0, hq0, rfl⟩ := List.mem_map.mp hz
    cases hf : kvs.find? (fun q => decide (q.1 = q0.1)) with
    | none =>
      have := List.find?_eq_none.mp hf q0 hq0
      simp at this
    | some q =>
      have hq := List.mem_of_find?_eq_some hf
      have hqe := List.find?_some hf
      have hqe := of_decide_eq_true hqe
      obtain ⟨u, h1, h2⟩ := He.valsB_ok hv hq
      refine ⟨u, q.2.v K, ?_, by rw [← hqe]; exact h1, h2⟩
      rw [List.find?_map]
      show Option.map _ (Option.map _ (kvs.find? fun q => decide (q.1 = q0.1))) = _
      rw [hf]
      rfl
  · left
    have hl : es.toList.map He.keyOf = He.keysIn w.params (kvs.map (·.1)) := by
      unfold He.dicW at h
      rw [D.at_] at h
      dsimp only at h
      split at h
      · exact Option.some.inj h
      · cases h
    obtain ⟨i1, i2⟩ := keys_miss hl hz
    refine ⟨?_, ?_⟩
    · rw [List.find?_map]
      show Option.map _ (Option.map _ (kvs.find? fun q => decide (q.1 = z))) = _
      rw [show kvs.find? (fun q => decide (q.1 = z)) = none from List.find?_eq_none.mpr fun q hq e => hz (by rw [← of_decide_eq_true e]; exact List.mem_map.mpr ⟨q, hq, rfl⟩)]
      rfl
    · unfold PySem.W.nsIn
      rw [D.at_]
      dsimp only
      rw [i1]
      dsimp only
      rw [i2]
      rfl
theorem tab_at {fa : List He.Fa} {fn : List He.DefD} {ts : List He.Tab} {w : World} {K : PySem.W.Frag} (c : He.SaysT fa fn ts w K) (i : Nat) {t : He.Tab} (h : ts[i]? = some t) : He.dicW K (t.1 K) = some (He.keysIn w.params t.2) := by
  have e : ts.map (fun t => He.dicW K (t.1 K)) = ts.map fun t => some (He.keysIn w.params t.2) := congrArg (fun z : He.AlT => z.2) c
  have e2 : (ts.map fun t => He.dicW K (t.1 K))[i]? = (ts.map fun t => some (He.keysIn w.params t.2))[i]? := by rw [e]
  rw [List.getElem?_map, List.getElem?_map, h] at e2
  exact Option.some.inj e2

/-! ### more methods of lists -/
section
variable {X : Cx}
def rClearG : V → List V → Hp → VK → Prop := fun x vs H Q => ∃ l xs, x = .ref l ∧ vs = [] ∧ H l = some (.lst xs) ∧ Put H l (.lst []) fun H' => Q .non H'
/-! dicts: a copy, a clearing -/
def rDClearG : V → List V → Hp → VK → Prop := fun x vs H Q => ∃ (a : Addr) (kvs : List (Key × V)), x = .ref a ∧ vs = [] ∧ H a = some (.dK kvs) ∧ Put H a (.dK []) fun H' => Q .non H'
def rDictG : List V → Hp → VK → Prop := fun xs H Q => ∃ (a : Addr) (kvs : List (Key × V)), xs = [.ref a] ∧ H a = some (.dK kvs) ∧ New H (.dK kvs) fun p H' => Q (.ref p) H'
/-- a list so many times -/
def rRepG : R2 := fun x y H Q => ∃ l k xs, x = .ref l ∧ y = .int k ∧ H l = some (.lst xs) ∧ -(2 ^ 63) ≤ k ∧ k < 2 ^ 63 ∧ xs.length * k.toNat ≤ sizeLine ∧ New H (.lst (List.replicate k.toNat xs).flatten) fun p H' => Q (.ref p) H'
theorem op_repG : OpR X (binaryOp .Mult) rRepG := opr_imp op_rep fun x y H Q ⟨l, k, xs, e1, e2, h, h1, h2, h3, n⟩ => ⟨l, k, xs, e1, e2, h, h1, h2, h3, n.at⟩
/-- a statement that is never come to -/
def tNever : TS := fun _ _ _ => False
/-- dict(l) of a list of pairs -/
def rDictP (K : PySem.W.Frag) : List V → Hp → VK → Prop := fun xs H Q => ∃ (a : Addr) (ps : List Addr) (kvs : List (Key × V)), xs = [.ref a] ∧ SqL K H a (ps.map V.ref) ∧ Paired (fun p kv => SqT K H p [kV kv.1, kv.2]) ps kvs ∧ New H (.dK (mergeK [] kvs)) fun p H' => Q (.ref p) H'
theorem call_dictG : CallR X (.type "dict") rDictG := callr_imp call_dictD fun xs H Q ⟨a, kvs, e, h, n⟩ => ⟨a, kvs, e, .of h, n.at⟩
end
section
variable {K : PySem.W.Frag} {w : World} {H : Hp} {Q : VK} {a : Addr} {xs : List V} {ss : List Str} {k : Str} {j : Nat} {R : It → Hp → Prop} {σ : L2.St} {ta : TA}
/-- the place of a text among unlike ones -/
theorem g_indexS (h : SqL K H a (ss.map V.str)) (nd : ss.Nodup) (e : ss[j]? = some k) (q : Q (.int (j : Nat)) H) : rIndex K (.ref a) [.str k] H Q := by
  refine ⟨a, ss.map V.str, .str k, j, .str k, rfl, rfl, h, rfl, flat_strs ss, by rw [List.getElem?_map, e]; rfl, by simp [eqV], fun m z' hm hz => ?_, q⟩
  rw [List.getElem?_map] at hz
  obtain ⟨s, hs, rfl⟩ := Option.map_eq_some_iff.mp hz
  show (s == k) = false
  have hne : s ≠ k := by
    rintro rfl
    obtain ⟨h1, h2⟩ := List.getElem?_eq_some_iff.mp hs
    obtain ⟨h3, h4⟩ := List.getElem?_eq_some_iff.mp e
    have := (List.pairwise_iff_getElem.mp nd) m j h1 h3 hm
    exact this (h2.trans h4.symm)
  simpa using hne
end

/-! ### what is known of a heap, from the heaps ahead -/
section
variable {H H1 H' : Hp} {a b d p : Addr} {o : HO} {xs ys : List V}
theorem Same.to (s : Same H H') (h : H b = some o) : H' b = some o := s b o h
theorem Chg.to (c : Chg a H H') (h : H b = some o) (n : b ≠ a) : H' b = some o := c b o n h
theorem Tk.to (k : Tk H H') (h : H b = some (.tup xs)) : H' b = some (.tup xs) := k b xs h
/-- nothing is at p (a word of its own, so that it is found by its heap) -/
def Fr (H : Hp) (p : Addr) : Prop := H p = none
theorem ne_fr (h : H b = some o) (h' : Fr H a) : b ≠ a := ne_of_none h h'
theorem New.mk {R : Addr → Hp → Prop} (h : ∀ p H', Fr H p → H' p = some o → Same H H' → R p H') : New H o R := h
theorem Put.mk {R : Hp → Prop} (h : ∀ H', H' a = some o → Chg a H H' → R H') : Put H a o R := h
theorem Chg.free (c : Chg a H H') (n : b ≠ a) (h : H' b = none) : H b = none := by
  cases e : H b with
  | none => rfl
  | some o => rw [c b o n e] at h; cases h
theorem Chg.fresh (i : Chg p H H1) (hd : H d = none) (c : Chg d H1 H') : Chg p H H' := fun b o hb e => c b o (ne_of_none e hd) (i b o hb e)
theorem Tk.same (i : Tk H H1) (s : Same H1 H') : Tk H H' := i.trans (Same.tk s)
theorem Tk.lst (i : Tk H H1) (c : Chg a H1 H') (h : H1 a = some (.lst ys)) : Tk H H' := i.trans (c.tkl h)
theorem Tk.dct {kvs : List (Key × V)} (i : Tk H H1) (c : Chg a H1 H') (h : H1 a = some (.dK kvs)) : Tk H H' := i.trans (c.tk fun xs e => by rw [h] at e; cases e)
theorem Same.more (i : Same H H1) (s : Same H1 H') : Same H H' := i.trans s
theorem Same.more2 (i : Same H H1) (c : Chg d H1 H') (h : H d = none) : Same H H' := Same.chg i h c
theorem Tp.to {v : V} {e : PyData} (h : Tp H v e) (k : Tk H H') : Tp H' v e := h.mono k
theorem Tps.to {vs : List V} {es : List PyData} (h : Tps H vs es) (k : Tk H H') : Tps H' vs es := h.mono k
end
section
variable {K : PySem.W.Frag} {w : World} {H : Hp} {v x y z : V} {i j k : Nat} {p a b : Addr} {xs ys : List V} {Q : VK} {σ : L2.St}
theorem g_ixTa {i : Int} (h : H p = some (.tup xs)) (e : xs[i.toNat]? = some v) (h0 : 0 ≤ i) (q : Q v H) : rIxG K w (.ref p) (.int i) H Q := g_ixT (.of h) (atI_of h0 e) q
theorem g_ixLa {i : Int} (h : H p = some (.lst xs)) (e : xs[i.toNat]? = some v) (h0 : 0 ≤ i) (q : Q v H) : rIxG K w (.ref p) (.int i) H Q := g_ixL (.of h) (atI_of h0 e) q
theorem g_isLa {R : Addr → Prop} (h : H p = some (.lst xs)) (q : R p) : ∃ a, V.ref p = .ref a ∧ (∃ xs, SqL K H a xs) ∧ R a := g_isL (.of h) q
theorem g_isTa {R : Addr → Prop} (h : H p = some (.tup xs)) (q : R p) : ∃ a, V.ref p = .ref a ∧ (∃ xs, SqT K H a xs) ∧ R a := g_isT (.of h) q
theorem g_inX {k : Str} {r : Bool} (h : H p = some (.tup xs)) (f : xs.all flatV = true) (e : inV (.str k) xs = r) (q : Q (.bl r) H) : rInG K w false (.str k) (.ref p) H Q := .inl ⟨p, xs, rfl, .inr (.of h), rfl, f, by rw [e]; exact q⟩
theorem g_notInX {k : Str} {r : Bool} (h : H p = some (.tup xs)) (f : xs.all flatV = true) (e : inV (.str k) xs = r) (q : Q (.bl (!r)) H) : rInG K w true (.str k) (.ref p) H Q := .inl ⟨p, xs, rfl, .inr (.of h), rfl, f, by rw [e]; exact q⟩
end
/-! comprehensions that make of each item one thing, where no old object changes -/
theorem Tps.of_get {H : Hp} : ∀ {us : List V} {ds : List PyData}, us.length = ds.length → (∀ (i : Nat) y, us[i]? = some y → ∃ d, ds[i]? = some d ∧ Tp H y d) → Tps H us ds
  | [], [], _, _ => .nil
  | u :: us, d :: ds, hl, h => by
    refine .cons ?_ (Tps.of_get (Nat.succ.inj hl) fun i y hy => h (i + 1) y hy)
    obtain ⟨d', h1, h2⟩ := h 0 u rfl
    cases h1
    exact h2
section
variable {K : PySem.W.Frag} {H1 : Hp} {g : TG} {te : TE} {vs : List Nat} {σ : L2.St} {a : Addr} {xs : List V} {Qd : Addr → Hp → Prop} {F : Nat → V → Hp → Prop}
theorem lc_map_any {J : It} (hJ1 : ∀ i H', i < xs.length → Same H1 H' → J.go i H') (hJ2 : ∀ H', Same H1 H' → J.stop xs.length H') (hJ3 : ∀ i H' x H2, Same H1 H' → J.yld i H' x H2 → H2 = H' ∧ xs[i]? = some x)
    (hl : xs.length ≤ 100000) (F : Nat → V → Hp → Prop) (hF : ∀ i y H H', Tk H H' → F i y H → F i y H')
    (hs : ∀ (i : Nat) x H' (Nx : V → Hp → Prop), xs[i]? = some x → Same H1 H' → (∀ y H4, Same H' H4 → F i y H4 → Nx y H4) → g x (wipe σ vs) H' fun σ2 H2 => wipe σ2 vs = wipe σ vs ∧ te σ2 H2 Nx)
    (hd : ∀ D (ys : List V) H', Fr H1 D → H' D = some (.lst ys) → ys.length = xs.length → (∀ (i : Nat) y, ys[i]? = some y → F i y H') → Same H1 H' → Qd D H') : LcR J g tYes te vs σ H1 Qd := by
  intro D hD
  refine lc_any xs.length (fun i acc H' => acc.length = i ∧ (∀ (j : Nat) y, acc[j]? = some y → F j y H') ∧ Same H1 H') hD (fun H' _ s => ⟨rfl, by simp, s⟩) (fun i acc H' hi ⟨_, _, s⟩ => hJ1 i H' hi s) (fun acc H' ⟨_, _, s⟩ => hJ2 H' s) ?_ ?_
  · rintro i x acc H2 H' hi hla ⟨ha, hf, s2⟩ hd2 hy
    obtain ⟨rfl, hx⟩ := hJ3 i _ _ _ s2 hy
    refine hs i x _ _ hx s2 fun y H4 s4 f4 => ?_
    refine lc_step (s4 _ _ hd2) hla (by show _ < 16777216; omega) fun H5 e5 c5 => ?_
    have k5 : Tk H4 H5 := c5.tkl (s4 _ _ hd2)
    refine ⟨by rw [List.length_append, ha]; rfl, fun j z hz => ?_, Same.chg (s2.trans s4) hD c5⟩
    by_cases hj : j < acc.length
    · rw [List.getElem?_append_left hj] at hz
      exact hF _ _ _ _ ((Same.tk s4).trans k5) (hf j z hz)
    · have hj2 : j < (acc ++ [y]).length := (List.getElem?_eq_some_iff.mp hz).1
      rw [List.length_append, List.length_singleton] at hj2
      have : j = acc.length := by omega
      subst this
      rw [List.getElem?_append_right (Nat.le_refl _), Nat.sub_self] at hz
      cases hz
      rw [ha]
      exact hF _ _ _ _ k5 f4
  · rintro acc H' hd2 ⟨ha, hf, s⟩
    exact hd D acc H' hD hd2 ha hf s
theorem lc_mapT (ea : H1 a = some (.tup xs)) (hl : xs.length ≤ 100000) (F : Nat → V → Hp → Prop) (hF : ∀ i y H H', Tk H H' → F i y H → F i y H')
    (hs : ∀ (i : Nat) x H' (Nx : V → Hp → Prop), xs[i]? = some x → Same H1 H' → (∀ y H4, Same H' H4 → F i y H4 → Nx y H4) → g x (wipe σ vs) H' fun σ2 H2 => wipe σ2 vs = wipe σ vs ∧ te σ2 H2 Nx)
    (hd : ∀ D (ys : List V) H', Fr H1 D → H' D = some (.lst ys) → ys.length = xs.length → (∀ (i : Nat) y, ys[i]? = some y → F i y H') → Same H1 H' → Qd D H') : LcR (Itt K a) g tYes te vs σ H1 Qd :=
  lc_map_any (xs := xs) (fun i H' hi s => ⟨_, _, .of (s _ _ ea), List.getElem?_eq_getElem hi⟩) (fun H' s => ⟨_, .of (s _ _ ea), Nat.le_refl _⟩) (fun i H' x H2 s ⟨e, hx⟩ => ⟨e, hx _ (.of (s _ _ ea))⟩) hl F hF hs hd
theorem lc_mapL (ea : H1 a = some (.lst xs)) (hl : xs.length ≤ 100000) (F : Nat → V → Hp → Prop) (hF : ∀ i y H H', Tk H H' → F i y H → F i y H')
    (hs : ∀ (i : Nat) x H' (Nx : V → Hp → Prop), xs[i]? = some x → Same H1 H' → (∀ y H4, Same H' H4 → F i y H4 → Nx y H4) → g x (wipe σ vs) H' fun σ2 H2 => wipe σ2 vs = wipe σ vs ∧ te σ2 H2 Nx)
    (hd : ∀ D (ys : List V) H', Fr H1 D → H' D = some (.lst ys) → ys.length = xs.length → (∀ (i : Nat) y, ys[i]? = some y → F i y H') → Same H1 H' → Qd D H') : LcR (Itl K a) g tYes te vs σ H1 Qd :=
  lc_map_any (xs := xs) (fun i H' hi s => ⟨_, _, .of (s _ _ ea), List.getElem?_eq_getElem hi⟩) (fun H' s => ⟨_, .of (s _ _ ea), Nat.le_refl _⟩) (fun i H' x H2 s ⟨e, hx⟩ => ⟨e, hx _ (.of (s _ _ ea))⟩) hl F hF hs hd
end
/-! for over a tuple, over a list that stays -/
section
variable {K : PySem.W.Frag} {g : TG} {tb : TS} {D : Ends} {σ : L2.St} {H : Hp} {a : Addr} {xs : List V}
theorem for_T (Pv : Nat → L2.St → Hp → Prop) (ha : ∀ i σ H', Pv i σ H' → H' a = some (.tup xs)) (h0 : Pv 0 σ H)
    (hs : ∀ (i : Nat) x σ H', xs[i]? = some x → Pv i σ H' → g x σ H' fun σ2 H2 => tb { D with nx := Pv (i + 1), ct := Pv (i + 1), bk := D.nx } σ2 H2) (hd : ∀ σ H', Pv xs.length σ H' → D.nx σ H') : ForW (Itt K a) g tb D σ H :=
  for_any xs.length Pv h0 (fun i σ H' hi p => ⟨_, _, .of (ha _ _ _ p), List.getElem?_eq_getElem hi⟩) (fun σ H' p => ⟨_, .of (ha _ _ _ p), Nat.le_refl _⟩)
    (fun i x σ H1 H2 hi p ⟨e, hx⟩ => by subst e; exact hs i x σ _ (hx _ (.of (ha _ _ _ p))) p) hd
theorem for_L (Pv : Nat → L2.St → Hp → Prop) (ha : ∀ i σ H', Pv i σ H' → H' a = some (.lst xs)) (h0 : Pv 0 σ H)
    (hs : ∀ (i : Nat) x σ H', xs[i]? = some x → Pv i σ H' → g x σ H' fun σ2 H2 => tb { D with nx := Pv (i + 1), ct := Pv (i + 1), bk := D.nx } σ2 H2) (hd : ∀ σ H', Pv xs.length σ H' → D.nx σ H') : ForW (Itl K a) g tb D σ H :=
  for_any xs.length Pv h0 (fun i σ H' hi p => ⟨_, _, .of (ha _ _ _ p), List.getElem?_eq_getElem hi⟩) (fun σ H' p => ⟨_, .of (ha _ _ _ p), Nat.le_refl _⟩)
    (fun i x σ H1 H2 hi p ⟨e, hx⟩ => by subst e; exact hs i x σ _ (hx _ (.of (ha _ _ _ p))) p) hd
end
section
variable {K : PySem.W.Frag} {w : World} {H H' : Hp} {Q : VK} {a b : Addr} {xs ys : List V} {kvs : List (Key × V)}
theorem g_dict (h : H a = some (.dK kvs)) (q : New H (.dK kvs) fun p H' => Q (.ref p) H') : rDictG [.ref a] H Q := ⟨a, kvs, rfl, h, q⟩
theorem g_addTn (h1 : H a = some (.tup xs)) (h2 : H b = some (.tup ys)) (hl : xs.length + ys.length ≤ sizeLine) (ny : ys ≠ []) (q : ∀ c H', H' c = some (.tup (xs ++ ys)) → Same H H' → Q (.ref c) H') : rAddG K (.ref a) (.ref b) H Q := by
  refine .inr (.inr (.inr ⟨a, b, xs, ys, rfl, rfl, .of h1, .of h2, hl, fun e => ?_, fun _ e => absurd e ny, fun _ _ p H' _ e s => q p H' e s⟩))
  subst e
  exact q b H h2 (.refl _)
/-- a list and an empty one -/
theorem g_neNil (h : H a = some (.lst xs)) (h2 : H b = some (.lst [])) (q : Q (.bl (!xs.isEmpty)) H) : rNeG K (.ref a) (.ref b) H Q := by
  cases xs with
  | nil => exact .inr (.inr (.inr (.inl ⟨1, by decide, .inl ⟨a, b, [], [], rfl, rfl, .of h, .of h2, .nil⟩, q⟩)))
  | cons x xs => exact .inr (.inr (.inr (.inr ⟨a, b, _, _, rfl, rfl, .of h, .of h2, by simp, q⟩)))
theorem g_eqNil (h : H a = some (.lst xs)) (h2 : H b = some (.lst [])) (q : Q (.bl xs.isEmpty) H) : rEqG K (.ref a) (.ref b) H Q := by
  cases xs with
  | nil => exact .inr (.inr (.inr (.inl ⟨1, by decide, .inl ⟨a, b, [], [], rfl, rfl, .of h, .of h2, .nil⟩, q⟩)))
  | cons x xs => exact .inr (.inr (.inr (.inr ⟨a, b, _, _, rfl, rfl, .of h, .of h2, by simp, q⟩)))
def GTup (K : PySem.W.Frag) (a : Addr) (xs : List V) : Prop := ∀ H : Hp, SqT K H a xs
theorem g_inGT {k : Str} {r : Bool} (h : GTup K a xs) (f : xs.all flatV = true) (e : inV (.str k) xs = r) (q : Q (.bl r) H) : rInG K w false (.str k) (.ref a) H Q := .inl ⟨a, xs, rfl, .inr (h H), rfl, f, by rw [e]; exact q⟩
theorem g_neBI {i j : Int} (q : Q (.bl (!decide (i = j))) H) : rNeB K (.int i) (.int j) H Q := .inl (g_neI q)
theorem g_neBS {i j : Str} (q : Q (.bl (!decide (i = j))) H) : rNeB K (.str i) (.str j) H Q := .inl (g_neS q)
theorem g_eqBI {i j : Int} (q : Q (.bl (decide (i = j))) H) : rEqB K (.int i) (.int j) H Q := .inl (g_eqI q)
theorem g_eqBS {i j : Str} (q : Q (.bl (decide (i = j))) H) : rEqB K (.str i) (.str j) H Q := .inl (g_eqS q)
end
/-! ### zip of a list and a tuple, any of both -/
inductive Kd | lst | tup
/-- an iterator at p, at its k-th item of the object at l -/
def Feed (κ : Kd) (h : Heap) (p l : Addr) (k : Nat) (xs : Array Value) : Prop :=
  match κ with
  | .lst => h.IsListIter p l k ∧ h.IsList l xs
  | .tup => h.IsTupleIter p l k ∧ h.IsTuple l xs
theorem Feed.to {κ : Kd} {h h' : Heap} {p l : Addr} {k : Nat} {xs : Array Value} (f : Feed κ h p l k xs) (e1 : ∀ o, h.get? p = some o → h'.get? p = some o) (e2 : ∀ o, h.get? l = some o → h'.get? l = some o) : Feed κ h' p l k xs := by
  cases κ with
  | lst => exact ⟨f.1.at e1, f.2.at e2⟩
  | tup => exact ⟨f.1.at e1, f.2.at e2⟩
theorem Feed.lt {κ : Kd} {h : Heap} {p l : Addr} {k : Nat} {xs : Array Value} (f : Feed κ h p l k xs) : p < h.objs.size ∧ l < h.objs.size := by
  cases κ with
  | lst => obtain ⟨⟨o, e, _⟩, ⟨o2, e2, _⟩⟩ := f; exact ⟨Heap.lt_size e, Heap.lt_size e2⟩
  | tup => obtain ⟨⟨o, e, _⟩, ⟨o2, e2, _⟩⟩ := f; exact ⟨Heap.lt_size e, Heap.lt_size e2⟩
theorem Feed.obj {κ : Kd} {h : Heap} {p l : Addr} {k : Nat} {xs : Array Value} (f : Feed κ h p l k xs) : ∃ o, h.get? p = some o ∧ ∀ v, o.data ≠ .cell v := by
  cases κ with
  | lst => obtain ⟨⟨o, e, _, d⟩, _⟩ := f; exact ⟨o, e, fun v q => by rw [d] at q; cases q⟩
  | tup => obtain ⟨⟨o, e, _, d⟩, _⟩ := f; exact ⟨o, e, fun v q => by rw [d] at q; cases q⟩
section
variable {prog : Program} {w : World} {A : Around} {E : Value → Shared → Prop} {s : Shared}
theorem feed_next {κ : Kd} {p l : Addr} {k : Nat} {xs : Array Value} {x : Value} {Q : Value → Shared → Prop} (f : Feed κ s.heap p l k xs) (n : l ≠ p) (e : xs[k]? = some x)
    (q : ∀ h', Feed κ h' p l (k + 1) xs → Heap.SameBut p s.heap h' → Q x { s with heap := h' }) : wpAny (model prog w) A (Builtin.SmallTypes.nextOf (.ref p)) Q E s := by
  cases κ with
  | lst => exact wpAny_nextOf_list_item f.1 f.2 e fun h' a b => q h' ⟨a, f.2.at fun o z => b.extBut _ _ n z⟩ b
  | tup => exact RZ.nextOf_tuple_item f.1 f.2 e fun h' a b => q h' ⟨a, f.2.at fun o z => b.extBut _ _ n z⟩ b
theorem feed_over {κ : Kd} {p l : Addr} {k : Nat} {xs : Array Value} {Q : Value → Shared → Prop} (calm : A.handled = none) (f : Feed κ s.heap p l k xs) (e : xs[k]? = none)
    (q : ∀ h' x, Heap.ExtBut p s.heap h' → (∃ o, h'.get? x = some o ∧ o.cls = .type "StopIteration") → E (.ref x) { s with heap := h' }) : wpAny (model prog w) A (Builtin.SmallTypes.nextOf (.ref p)) Q E s := by
  cases κ with
  | lst => exact wpAny_nextOf_list_end calm f.1 f.2 e q
  | tup => exact RZ.nextOf_tuple_end calm f.1 f.2 e q
end
/-- all that a zip at z is made of; t, b: what it tells of the pair that it gave out -/
structure Zp (κ κ' : Kd) (z I O p p' l l' : Addr) (xs ys : Array Value) (k k' : Nat) (t : Value) (b : Bool) (h : Heap) : Prop where
  zip : h.get? z = some { cls := .type "zip", dict := none, data := .fields #[t, .bool b, .bool false, .ref I, .ref O], slots := #[] }
  ins : IsPair h I (.ref p) (.ref p')
  out : ∃ x y, IsPair h O x y
  fst : Feed κ h p l k xs
  snd : Feed κ' h p' l' k' ys
section
variable {κ κ' : Kd} {z I O p p' l l' : Addr} {xs ys : Array Value} {k k' : Nat} {t t' : Value} {b b' : Bool} {h h' : Heap}
theorem Zp.setZ (d : ZipApart z I O p p' l l') (m : Zp κ κ' z I O p p' l l' xs ys k k' t b h) (e : h'.get? z = some { cls := .type "zip", dict := none, data := .fields #[t', .bool b', .bool false, .ref I, .ref O], slots := #[] }) (s : Heap.SameBut z h h') :
    Zp κ κ' z I O p p' l l' xs ys k k' t' b' h' :=
  ⟨e, s.extBut _ _ d.TIz m.ins, m.out.imp fun x ⟨y, g⟩ => ⟨y, s.extBut _ _ d.TOz g⟩, m.fst.to (fun o => s.extBut _ o d.i1z) (fun o => s.extBut _ o d.l1z), m.snd.to (fun o => s.extBut _ o d.i2z) (fun o => s.extBut _ o d.l2z)⟩
theorem Zp.setF {j : Nat} (d : ZipApart z I O p p' l l') (m : Zp κ κ' z I O p p' l l' xs ys k k' t b h) (e : Feed κ h' p l j xs) (s : Heap.SameBut p h h') : Zp κ κ' z I O p p' l l' xs ys j k' t b h' :=
  ⟨s.extBut _ _ d.i1z.symm m.zip, s.extBut _ _ d.TIi1 m.ins, m.out.imp fun x ⟨y, g⟩ => ⟨y, s.extBut _ _ d.TOi1 g⟩, e, m.snd.to (fun o => s.extBut _ o d.i12.symm) (fun o => s.extBut _ o d.l2i1)⟩
theorem Zp.setS {j : Nat} (d : ZipApart z I O p p' l l') (m : Zp κ κ' z I O p p' l l' xs ys k k' t b h) (e : Feed κ' h' p' l' j ys) (s : Heap.SameBut p' h h') : Zp κ κ' z I O p p' l l' xs ys k j t b h' :=
  ⟨s.extBut _ _ d.i2z.symm m.zip, s.extBut _ _ d.TIi2 m.ins, m.out.imp fun x ⟨y, g⟩ => ⟨y, s.extBut _ _ d.TOi2 g⟩, m.fst.to (fun o => s.extBut _ o d.i12) (fun o => s.extBut _ o d.l1i2), e⟩
theorem Zp.setO {x y : Value} (d : ZipApart z I O p p' l l') (m : Zp κ κ' z I O p p' l l' xs ys k k' t b h) (e : IsPair h' O x y) (s : Heap.SameBut O h h') : Zp κ κ' z I O p p' l l' xs ys k k' t b h' :=
  ⟨s.extBut _ _ d.TOz.symm m.zip, s.extBut _ _ d.TITO m.ins, ⟨x, y, e⟩, m.fst.to (fun o => s.extBut _ o d.TOi1.symm) (fun o => s.extBut _ o d.l1TO), m.snd.to (fun o => s.extBut _ o d.TOi2.symm) (fun o => s.extBut _ o d.l2TO)⟩
theorem Zp.more (m : Zp κ κ' z I O p p' l l' xs ys k k' t b h) (s : ∀ c o, h.get? c = some o → h'.get? c = some o) : Zp κ κ' z I O p p' l l' xs ys k k' t b h' :=
  ⟨s _ _ m.zip, s _ _ m.ins, m.out.imp fun x ⟨y, g⟩ => ⟨y, s _ _ g⟩, m.fst.to (fun o => s _ o) (fun o => s _ o), m.snd.to (fun o => s _ o) (fun o => s _ o)⟩
theorem Zp.ty {m : Zp κ κ' z I O p p' l l' xs ys k k' t b h} : h.get? z ≠ none := fun e => by rw [m.zip] at e; cases e
end
/-- all but those of c stay -/
def But (c : List Addr) (h h' : Heap) : Prop := ∀ a o, a ∉ c → h.get? a = some o → h'.get? a = some o
theorem But.of {a : Addr} {c : List Addr} {h h' : Heap} (s : Heap.SameBut a h h') (m : a ∈ c) : But c h h' := fun x o n e => s.extBut _ _ (fun q => n (q ▸ m)) e
theorem But.trans {c : List Addr} {h h1 h' : Heap} (a : But c h h1) (b : But c h1 h') : But c h h' := fun x o n e => b x o n (a x o n e)
section
variable {prog : Program} {w : World} {A : Around} {E : Value → Shared → Prop} {s : Shared} {κ κ' : Kd} {z I O p p' l l' : Addr} {xs ys : Array Value} {k k' : Nat}
theorem zp_item {x y : Value} {Q : Value → Shared → Prop} (d : ZipApart z I O p p' l l') (m : Zp κ κ' z I O p p' l l' xs ys k k' .none false s.heap) (ex : xs[k]? = some x) (ey : ys[k']? = some y)
    (q : ∀ h', Zp κ κ' z I O p p' l l' xs ys (k + 1) (k' + 1) (rawInt s.heap.objs.size) false h' → IsPair h' s.heap.objs.size x y → h'.objs.size = s.heap.objs.size + 1 → But [z, O, p, p'] s.heap h' → Q (.ref s.heap.objs.size) { s with heap := h' }) :
    wpAny (model prog w) A (Builtin.«zip.__next__» ⟨[.ref z], []⟩) (fun r s' => ∃ v, r = .done (.ret v) ∧ Q v s') E s := by
  obtain ⟨x0, y0, go⟩ := m.out
  show wpAny _ _ (field (.ref z) 2 >>= _) _ _ _
  apply wpAny_bind
  apply wpAny_field m.zip rfl (x := .bool false) rfl
  show wpAny _ _ (field (.ref z) 3 >>= _) _ _ _
  apply wpAny_bind
  apply wpAny_field m.zip rfl (x := .ref I) rfl
  apply wpAny_bind
  apply wpAny_seqItems m.ins rfl
  show wpAny _ _ (Builtin.SmallTypes.ownedTupleIsFree (.ref z) >>= _) _ _ _
  apply wpAny_bind
  unfold Builtin.SmallTypes.ownedTupleIsFree
  apply wpAny_bind
  apply wpAny_field m.zip rfl (x := .none) rfl
  apply wpAny_pure
  simp only [if_true]
  apply wpAny_bind
  apply wpAny_rule
  apply wpAny_bind
  apply wpAny_field m.zip rfl (x := .ref O) rfl
  apply wpAny_bind
  refine wpAny_setField_rec m.zip (by simp) fun g1 z1 s1 => ?_
  have m1 := m.setZ (t' := .ellipsis) (b' := false) d z1 s1
  have u1 : But [z, O, p, p'] s.heap g1 := .of s1 (by simp)
  apply wpAny_bind
  simp only [List.zipIdx_cons, List.zipIdx_nil, List.forIn_cons, List.forIn_nil]
  apply wpAny_bind
  apply wpAny_bind
  apply wpAny_onRaise
  show wpAny _ _ (Builtin.SmallTypes.nextOf (.ref p) >>= _) _ _ _
  apply wpAny_bind
  refine feed_next m1.fst d.l1i1 ex fun g2 f2 s2 => wpAny_pure ?_
  have m2 := m1.setF d f2 s2
  have u2 : But [z, O, p, p'] s.heap g2 := u1.trans (.of s2 (by simp))
  have go2 : IsPair g2 O x0 y0 := s2.extBut _ _ d.TOi1 (s1.extBut _ _ d.TOz go)
  apply wpAny_bind
  apply wpAny_seqItems go2 rfl
  apply wpAny_bind
  refine wpAny_updateSeq_pair go2 fun g3 o3 s3 => ?_
  have go3 : IsPair g3 O x y0 := o3
  have m3 := m2.setO d go3 s3
  have u3 : But [z, O, p, p'] s.heap g3 := u2.trans (.of s3 (by simp))
  apply wpAny_bind
  apply wpAny_letGo
  apply wpAny_pure
  apply wpAny_bind
  apply wpAny_bind
  apply wpAny_onRaise
  show wpAny _ _ (Builtin.SmallTypes.nextOf (.ref p') >>= _) _ _ _
  apply wpAny_bind
  refine feed_next m3.snd d.l2i2 ey fun g4 f4 s4 => wpAny_pure ?_
  have m4 := m3.setS d f4 s4
  have u4 : But [z, O, p, p'] s.heap g4 := u3.trans (.of s4 (by simp))
  have go4 : IsPair g4 O x y0 := s4.extBut _ _ d.TOi2 go3
  apply wpAny_bind
  apply wpAny_seqItems go4 rfl
  apply wpAny_bind
  refine wpAny_updateSeq_pair go4 fun g5 o5 s5 => ?_
  have go5 : IsPair g5 O x y := o5
  have m5 := m4.setO d go5 s5
  have u5 : But [z, O, p, p'] s.heap g5 := u4.trans (.of s5 (by simp))
  apply wpAny_bind
  apply wpAny_letGo
  apply wpAny_pure
  apply wpAny_pure
  apply wpAny_bind
  apply wpAny_seqItems go5 rfl
  apply wpAny_bind
  refine wpAny_newTuple ?_
  have sz : g5.objs.size = s.heap.objs.size := by rw [s5.1, s4.1, s3.1, s2.1, s1.1]
  have zl : z < g5.objs.size := Heap.lt_size m5.zip
  show wpAny _ _ (Builtin.SmallTypes.ownedTupleHandOut (.ref z) (.ref g5.objs.size) >>= _) _ _ _
  apply wpAny_bind
  unfold Builtin.SmallTypes.ownedTupleHandOut
  have m6 : Zp κ κ' z I O p p' l l' xs ys (k + 1) (k' + 1) .ellipsis false (g5.push { cls := .type "tuple", data := .seq #[x, y] }) := m5.more fun c o e => Heap.get?_push_of_some _ e
  have t6 : IsPair (g5.push { cls := .type "tuple", data := .seq #[x, y] }) g5.objs.size x y := Heap.get?_push_size _ rfl
  apply wpAny_bind
  refine wpAny_setField_rec m6.zip (by simp) fun g7 z7 s7 => ?_
  have m7 := m6.setZ (t' := rawInt g5.objs.size) (b' := false) d z7 s7
  refine wpAny_setField_rec m7.zip (by simp) fun g8 z8 s8 => ?_
  have m8 := m7.setZ (t' := rawInt g5.objs.size) (b' := false) d z8 s8
  have t8 : IsPair g8 g5.objs.size x y := s8.extBut _ _ (Nat.ne_of_gt zl) (s7.extBut _ _ (Nat.ne_of_gt zl) t6)
  have sz8 : g8.objs.size = g5.objs.size + 1 := by rw [s8.1, s7.1, Heap.size_push]
  have u8 : But [z, O, p, p'] s.heap g8 := fun c o n e => (But.of s8 (by simp)) c o n ((But.of s7 (by simp)) c o n (Heap.get?_push_of_some _ (u5 c o n e)))
  rw [sz] at m8 t8 sz8
  refine wpAny_pure ⟨_, rfl, ?_⟩
  show Q (.ref g5.objs.size) _
  rw [sz]
  exact q g8 m8 t8 sz8 u8
theorem zp_over {Q : Fin → Shared → Prop} (calm : A.handled = none) (d : ZipApart z I O p p' l l') (m : Zp κ κ' z I O p p' l l' xs ys k k' .none false s.heap) (e : xs[k]? = none ∨ ys[k']? = none)
    (q : ∀ h' x, But [z, O, p, p'] s.heap h' → (∃ o, h'.get? x = some o ∧ o.cls = .type "StopIteration") → E (.ref x) { s with heap := h' }) : wpAny (model prog w) A (Builtin.«zip.__next__» ⟨[.ref z], []⟩) Q E s := by
  obtain ⟨x0, y0, go⟩ := m.out
  show wpAny _ _ (field (.ref z) 2 >>= _) _ _ _
  apply wpAny_bind
  apply wpAny_field m.zip rfl (x := .bool false) rfl
  show wpAny _ _ (field (.ref z) 3 >>= _) _ _ _
  apply wpAny_bind
  apply wpAny_field m.zip rfl (x := .ref I) rfl
  apply wpAny_bind
  apply wpAny_seqItems m.ins rfl
  show wpAny _ _ (Builtin.SmallTypes.ownedTupleIsFree (.ref z) >>= _) _ _ _
  apply wpAny_bind
  unfold Builtin.SmallTypes.ownedTupleIsFree
  apply wpAny_bind
  apply wpAny_field m.zip rfl (x := .none) rfl
  apply wpAny_pure
  simp only [if_true]
  apply wpAny_bind
  apply wpAny_rule
  apply wpAny_bind
  apply wpAny_field m.zip rfl (x := .ref O) rfl
  apply wpAny_bind
  refine wpAny_setField_rec m.zip (by simp) fun g1 z1 s1 => ?_
  have m1 := m.setZ (t' := .ellipsis) (b' := false) d z1 s1
  have u1 : But [z, O, p, p'] s.heap g1 := .of s1 (by simp)
  apply wpAny_bind
  simp only [List.zipIdx_cons, List.zipIdx_nil, List.forIn_cons, List.forIn_nil]
  apply wpAny_bind
  apply wpAny_bind
  apply wpAny_onRaise
  show wpAny _ _ (Builtin.SmallTypes.nextOf (.ref p) >>= _) _ _ _
  cases ex : xs[k]? with
  | none =>
    apply wpAny_bind
    refine feed_over calm m1.fst ex fun g2 a s2 st => ?_
    have zz := s2 _ _ d.i1z.symm m1.zip
    obtain ⟨oa, ea, ca⟩ := st
    have na : a ≠ z := fun h => by rw [h, zz] at ea; cases ea; simp at ca
    refine wpAny_setField_rec zz (by simp) fun g3 _ s3 => q g3 a ?_ ⟨oa, s3.extBut _ _ na ea, ca⟩
    exact u1.trans (But.trans (fun c o n e => s2 _ _ (fun h => n (by simp [h])) e) (.of s3 (by simp)))
  | some x =>
    have ey : ys[k']? = none := e.resolve_left (by rw [ex]; exact fun h => nomatch h)
    apply wpAny_bind
    refine feed_next m1.fst d.l1i1 ex fun g2 f2 s2 => wpAny_pure ?_
    have m2 := m1.setF d f2 s2
    have u2 : But [z, O, p, p'] s.heap g2 := u1.trans (.of s2 (by simp))
    have go2 : IsPair g2 O x0 y0 := s2.extBut _ _ d.TOi1 (s1.extBut _ _ d.TOz go)
    apply wpAny_bind
    apply wpAny_seqItems go2 rfl
    apply wpAny_bind
    refine wpAny_updateSeq_pair go2 fun g3 o3 s3 => ?_
    have m3 := m2.setO (x := x) (y := y0) d o3 s3
    have u3 : But [z, O, p, p'] s.heap g3 := u2.trans (.of s3 (by simp))
    apply wpAny_bind
    apply wpAny_letGo
    apply wpAny_pure
    apply wpAny_bind
    apply wpAny_bind
    apply wpAny_onRaise
    show wpAny _ _ (Builtin.SmallTypes.nextOf (.ref p') >>= _) _ _ _
    apply wpAny_bind
    refine feed_over calm m3.snd ey fun g4 a s4 st => ?_
    have zz := s4 _ _ d.i2z.symm m3.zip
    obtain ⟨oa, ea, ca⟩ := st
    have na : a ≠ z := fun h => by rw [h, zz] at ea; cases ea; simp at ca
    refine wpAny_setField_rec zz (by simp) fun g5 _ s5 => q g5 a ?_ ⟨oa, s5.extBut _ _ na ea, ca⟩
    exact u3.trans (But.trans (fun c o n e => s4 _ _ (fun h => n (by simp [h])) e) (.of s5 (by simp)))
end
section
variable {prog : Program} {w : World} {A : Around} {E : Value → Shared → Prop} {s : Shared} {κ κ' : Kd} {z I O p p' l l' : Addr} {xs ys : Array Value} {k k' : Nat} {T : Addr} {f : Bool} {o : Obj} {x y : Value} {Q : Option Value → Shared → Prop}
theorem zp_is {t : Value} {b : Bool} (m : Zp κ κ' z I O p p' l l' xs ys k k' t b s.heap) : s.TypeIs (.ref z) "zip" := ⟨_, m.zip, rfl⟩
theorem zp_next {t : Value} {b : Bool} (m : Zp κ κ' z I O p p' l l' xs ys k k' t b s.heap) {R : Value → Shared → Prop} (go : wpAny (model prog w) A.in1 (Builtin.«zip.__next__» ⟨[.ref z], []⟩) (fun r s' => ∃ v, r = .done (.ret v) ∧ Q (some v) s') R s)
    (ov : ∀ x s', R x s' → ∃ a, x = .ref a ∧ (∃ o, s'.heap.get? a = some o ∧ o.cls = .type "StopIteration") ∧ Q none s') : wpAny (model prog w) A (pyNext (.ref z)) Q E s := by
  unfold pyNext
  apply wpAny_bind
  apply wpAny_attempt
  refine wpAny_callSpecial?_slot (name := Str.ofString "__next__") (zp_is m) F.slot_zip_next ?_
  refine wpAny_call_entry F.slot_zip_next (zp_is m) F.entry_zip_next ?_ (F.args_zip_next_1 _)
  refine wpAny_mono go (fun r s' hr => ?_) fun x s' hx => ?_
  · obtain ⟨v, e, hq⟩ := hr
    exact ⟨v, e, wpAny_pure hq⟩
  · obtain ⟨a, rfl, ⟨oa, ea, ca⟩, hq⟩ := ov x s' hx
    apply wpAny_bind
    refine wpAny_isInstance (v := .ref a) (s := s') (T := "StopIteration") (b := true) ⟨oa, ea, ca⟩ isSubtype_stop ?_
    exact wpAny_pure hq
theorem py_item (d : ZipApart z I O p p' l l') (m : Zp κ κ' z I O p p' l l' xs ys k k' .none false s.heap) (ex : xs[k]? = some x) (ey : ys[k']? = some y)
    (q : ∀ h', Zp κ κ' z I O p p' l l' xs ys (k + 1) (k' + 1) (rawInt s.heap.objs.size) false h' → IsPair h' s.heap.objs.size x y → h'.objs.size = s.heap.objs.size + 1 → But [z, O, p, p'] s.heap h' → Q (some (.ref s.heap.objs.size)) { s with heap := h' }) :
    wpAny (model prog w) A (pyNext (.ref z)) Q E s :=
  zp_next m (R := fun _ _ => False) (zp_item d m ex ey (Q := fun v s' => Q (some v) s') q) fun _ _ h => h.elim
theorem py_over (calm : A.handled = none) (d : ZipApart z I O p p' l l') (m : Zp κ κ' z I O p p' l l' xs ys k k' .none false s.heap) (e : xs[k]? = none ∨ ys[k']? = none)
    (q : ∀ h', But [z, O, p, p'] s.heap h' → Q none { s with heap := h' }) : wpAny (model prog w) A (pyNext (.ref z)) Q E s :=
  zp_next m (R := fun x s' => ∃ a h', x = .ref a ∧ s' = { s with heap := h' } ∧ But [z, O, p, p'] s.heap h' ∧ ∃ o, h'.get? a = some o ∧ o.cls = .type "StopIteration")
    (zp_over (A := A.in1) calm d m e fun h' a u st => ⟨a, h', rfl, rfl, u, st⟩) fun x s' ⟨a, h', e1, e2, u, st⟩ => by subst e2; exact ⟨a, e1, st, q h' u⟩
end
/-! making one -/
def Sq (κ : Kd) (h : Heap) (l : Addr) (xs : Array Value) : Prop :=
  match κ with
  | .lst => h.IsList l xs
  | .tup => h.IsTuple l xs
abbrev itO (n : String) (l : Addr) : Obj := { cls := .type n, data := .fields #[.ref l, .int 0 0] }
abbrev zh5 (n n' : String) (h : Heap) (l l' : Addr) : Heap :=
  ((((h.push (itO n l)).push (itO n' l')).push { cls := .type "tuple", data := .seq #[.ref h.objs.size, .ref (h.push (itO n l)).objs.size] }).push { cls := .type "tuple", data := .seq #[.none, .none] }).push
    { cls := .type "zip", data := .fields #[.none, .bool false, .bool false, .ref ((h.push (itO n l)).push (itO n' l')).objs.size, .ref (((h.push (itO n l)).push (itO n' l')).push { cls := .type "tuple", data := .seq #[.ref h.objs.size, .ref (h.push (itO n l)).objs.size] }).objs.size] }
abbrev zhN (n n' : String) (h : Heap) (l l' : Addr) : Nat :=
  ((((h.push (itO n l)).push (itO n' l')).push { cls := .type "tuple", data := .seq #[.ref h.objs.size, .ref (h.push (itO n l)).objs.size] }).push { cls := .type "tuple", data := .seq #[.none, .none] }).objs.size
theorem zm_tl (l l' : Addr) (xs ys : Array Value) :
    Meets (Builtin.«zip.__new__» ⟨[.type "zip", .ref l, .ref l'], []⟩) (fun _ R s => s.heap.IsTuple l xs ∧ s.heap.IsList l' ys ∧ R (.ok (.ret (.ref (zhN "tuple_iterator" "list_iterator" s.heap l l')))) { s with heap := zh5 "tuple_iterator" "list_iterator" s.heap l l' }) :=
  .of_wp fun prog w A R s h => by
    obtain ⟨hh, gg, dd, tt, oo⟩ := s
    obtain ⟨a1, a2, h⟩ := h
    have sub := sub_zip
    have b1 : Heap.IsTuple (Shared.heap ⟨hh, gg, dd, tt, oo⟩) l xs := a1
    have b2 : Heap.IsList (Shared.heap ⟨hh.push (itO "tuple_iterator" l), gg, dd, tt, oo⟩) l' ys := Heap.IsList.push a2 _
    wp_walk using wpAny_pyIter_tuple b1, wpAny_pyIter_list b2
    exact ⟨_, rfl, h⟩
theorem zm_lt (l l' : Addr) (xs ys : Array Value) :
    Meets (Builtin.«zip.__new__» ⟨[.type "zip", .ref l, .ref l'], []⟩) (fun _ R s => s.heap.IsList l xs ∧ s.heap.IsTuple l' ys ∧ R (.ok (.ret (.ref (zhN "list_iterator" "tuple_iterator" s.heap l l')))) { s with heap := zh5 "list_iterator" "tuple_iterator" s.heap l l' }) :=
  .of_wp fun prog w A R s h => by
    obtain ⟨hh, gg, dd, tt, oo⟩ := s
    obtain ⟨a1, a2, h⟩ := h
    have sub := sub_zip
    have b1 : Heap.IsList (Shared.heap ⟨hh, gg, dd, tt, oo⟩) l xs := a1
    have b2 : Heap.IsTuple (Shared.heap ⟨hh.push (itO "list_iterator" l), gg, dd, tt, oo⟩) l' ys := Heap.IsTuple.push a2 _
    wp_walk using wpAny_pyIter_list b1, wpAny_pyIter_tuple b2
    exact ⟨_, rfl, h⟩
section
variable {prog : Program} {w : World} {A : Around} {E : Value → Shared → Prop} {s : Shared} {l l' : Addr} {xs ys : Array Value} {Q : Value → Shared → Prop}
theorem put_last (h : Heap) (o : Obj) (f : o.isFreed = false) : (h.push o).get? h.objs.size = some o := Heap.get?_push_size h f
/-- what a new zip's heap holds -/
theorem zh5_is (n n' : String) (h : Heap) (l l' : Addr) : zhN n n' h l l' = h.objs.size + 4 ∧ (zh5 n n' h l l').objs.size = h.objs.size + 5 ∧
    (zh5 n n' h l l').get? (h.objs.size + 4) = some { cls := .type "zip", data := .fields #[.none, .bool false, .bool false, .ref (h.objs.size + 2), .ref (h.objs.size + 3)] } ∧
    IsPair (zh5 n n' h l l') (h.objs.size + 2) (.ref h.objs.size) (.ref (h.objs.size + 1)) ∧ IsPair (zh5 n n' h l l') (h.objs.size + 3) .none .none ∧
    (zh5 n n' h l l').get? h.objs.size = some (itO n l) ∧ (zh5 n n' h l l').get? (h.objs.size + 1) = some (itO n' l') ∧ ∀ c o, h.get? c = some o → (zh5 n n' h l l').get? c = some o := by
  have k1 : (h.push (itO n l)).objs.size = h.objs.size + 1 := Heap.size_push ..
  have k2 : ((h.push (itO n l)).push (itO n' l')).objs.size = h.objs.size + 2 := by rw [Heap.size_push, k1]
  have k3 : (((h.push (itO n l)).push (itO n' l')).push { cls := .type "tuple", data := .seq #[.ref h.objs.size, .ref (h.push (itO n l)).objs.size] }).objs.size = h.objs.size + 3 := by rw [Heap.size_push, k2]
  have k4 : zhN n n' h l l' = h.objs.size + 4 := by show Array.size _ = _; rw [Heap.size_push, k3]
  have r1 : (h.push (itO n l)).get? h.objs.size = some (itO n l) := Heap.get?_push_size _ rfl
  have r2 : ((h.push (itO n l)).push (itO n' l')).get? (h.push (itO n l)).objs.size = some (itO n' l') := Heap.get?_push_size _ rfl
  have r3 := put_last ((h.push (itO n l)).push (itO n' l')) { cls := .type "tuple", data := .seq #[.ref h.objs.size, .ref (h.push (itO n l)).objs.size] } rfl
  have r4 := put_last (((h.push (itO n l)).push (itO n' l')).push { cls := .type "tuple", data := .seq #[.ref h.objs.size, .ref (h.push (itO n l)).objs.size] }) { cls := .type "tuple", data := .seq #[.none, .none] } rfl
  have r5 := put_last ((((h.push (itO n l)).push (itO n' l')).push { cls := .type "tuple", data := .seq #[.ref h.objs.size, .ref (h.push (itO n l)).objs.size] }).push { cls := .type "tuple", data := .seq #[.none, .none] })
    { cls := .type "zip", data := .fields #[.none, .bool false, .bool false, .ref ((h.push (itO n l)).push (itO n' l')).objs.size, .ref (((h.push (itO n l)).push (itO n' l')).push { cls := .type "tuple", data := .seq #[.ref h.objs.size, .ref (h.push (itO n l)).objs.size] }).objs.size] } rfl
  have up : ∀ {g : Heap} {c : Addr} {o o' : Obj}, g.get? c = some o → (g.push o').get? c = some o := fun e => Heap.get?_push_of_some _ e
  refine ⟨k4, by rw [Heap.size_push]; show zhN n n' h l l' + 1 = _; rw [k4], ?_, ?_, ?_, up (up (up (up r1))), ?_, fun c o e => up (up (up (up (up e))))⟩
  · rw [← k4, ← k2, ← k3]; exact r5
  · rw [← k2, ← k1]; exact up (up r3)
  · rw [← k3]; exact up r4
  · rw [← k1]; exact up (up (up r2))
theorem call_zp {κ κ' : Kd} (a1 : Sq κ s.heap l xs) (a2 : Sq κ' s.heap l' ys)
    (q : ∀ h', Zp κ κ' (s.heap.objs.size + 4) (s.heap.objs.size + 2) (s.heap.objs.size + 3) s.heap.objs.size (s.heap.objs.size + 1) l l' xs ys 0 0 .none false h' → h'.objs.size = s.heap.objs.size + 5 →
      (∀ c o, s.heap.get? c = some o → h'.get? c = some o) → Q (.ref (s.heap.objs.size + 4)) { s with heap := h' }) : wpAny (model prog w) A (call (.type "zip") [.ref l, .ref l']) Q E s := by
  cases κ with
  | lst =>
    cases κ' with
    | lst => exact call_zip_2 a1 a2 fun h' e1 e2 e3 e4 e5 e6 up => q h' ⟨e1, e2, ⟨_, _, e3⟩, ⟨e4, a1.at fun o => up _ o⟩, ⟨e5, a2.at fun o => up _ o⟩⟩ e6 up
    | tup =>
      refine callType_new F.called_zip (by decide) (F.typeCall_zip_2 _ _) (F.newCall_zip_2 _ _) (fun obj => F.args_object_init_3 obj _ _) F.entry_zip_new (zm_lt l l' xs ys) ⟨a1, a2, ?_⟩
      obtain ⟨e0, e1, e2, e3, e4, e5, e6, up⟩ := zh5_is "list_iterator" "tuple_iterator" s.heap l l'
      show _ ∧ _
      rw [e0]
      exact ⟨⟨_, e2, rfl⟩, q _ ⟨e2, e3, ⟨_, _, e4⟩, ⟨⟨_, e5, rfl, rfl⟩, a1.at fun o => up _ o⟩, ⟨⟨_, e6, rfl, rfl⟩, a2.at fun o => up _ o⟩⟩ e1 up⟩
  | tup =>
    cases κ' with
    | lst =>
      refine callType_new F.called_zip (by decide) (F.typeCall_zip_2 _ _) (F.newCall_zip_2 _ _) (fun obj => F.args_object_init_3 obj _ _) F.entry_zip_new (zm_tl l l' xs ys) ⟨a1, a2, ?_⟩
      obtain ⟨e0, e1, e2, e3, e4, e5, e6, up⟩ := zh5_is "tuple_iterator" "list_iterator" s.heap l l'
      show _ ∧ _
      rw [e0]
      exact ⟨⟨_, e2, rfl⟩, q _ ⟨e2, e3, ⟨_, _, e4⟩, ⟨⟨_, e5, rfl, rfl⟩, a1.at fun o => up _ o⟩, ⟨⟨_, e6, rfl, rfl⟩, a2.at fun o => up _ o⟩⟩ e1 up⟩
    | tup => exact RZ.call_zipT a1 a2 fun h' e1 e2 e3 e4 e5 e6 up => q h' ⟨e1, e2, ⟨_, _, e3⟩, ⟨e4, a1.at fun o => up _ o⟩, ⟨e5, a2.at fun o => up _ o⟩⟩ e6 up
end
/-! ### walked -/
def SqK (K : PySem.W.Frag) (κ : Kd) (H : Hp) (a : Addr) (xs : List V) : Prop :=
  match κ with
  | .lst => SqL K H a xs
  | .tup => SqT K H a xs
def It1 (κ : Kd) (h : Heap) (p l : Addr) (k : Nat) : Prop :=
  match κ with
  | .lst => h.IsListIter p l k
  | .tup => h.IsTupleIter p l k
theorem It1.to {κ : Kd} {h h' : Heap} {p l : Addr} {k : Nat} (f : It1 κ h p l k) (e : ∀ o, h.get? p = some o → h'.get? p = some o) : It1 κ h' p l k := by
  cases κ with
  | lst => exact f.at e
  | tup => exact f.at e
theorem It1.obj {κ : Kd} {h : Heap} {p l : Addr} {k : Nat} (f : It1 κ h p l k) : ∃ o, h.get? p = some o ∧ ∀ v, o.data ≠ .cell v := by
  cases κ with
  | lst => obtain ⟨o, e, _, d⟩ := f; exact ⟨o, e, fun v q => by rw [d] at q; cases q⟩
  | tup => obtain ⟨o, e, _, d⟩ := f; exact ⟨o, e, fun v q => by rw [d] at q; cases q⟩
theorem Feed.it {κ : Kd} {h : Heap} {p l : Addr} {k : Nat} {xs : Array Value} (f : Feed κ h p l k xs) : It1 κ h p l k := by
  cases κ with
  | lst => exact f.1
  | tup => exact f.1
theorem It1.feed {κ : Kd} {h : Heap} {p l : Addr} {k : Nat} {xs : Array Value} (f : It1 κ h p l k) (g : Sq κ h l xs) : Feed κ h p l k xs := by
  cases κ with
  | lst => exact ⟨f, g⟩
  | tup => exact ⟨f, g⟩
section
variable {X : Cx} {pins : List (Addr × Obj)} {σ : L2.St} {H : Hp} {s : Shared}
theorem SqK.is (I : Inv X pins σ H s) {κ : Kd} {a : Addr} {xs : List V} (h : SqK X.K κ H a xs) : ∃ us, Vals xs us ∧ Sq κ s.heap a us.toArray ∧ xs.length ≤ sizeLine := by
  cases κ with
  | lst =>
    obtain ⟨us, r, p, hz⟩ := I.list h
    exact ⟨us, r, p.isList, hz⟩
  | tup =>
    obtain ⟨us, r, p, hz⟩ := I.tuple h
    exact ⟨us, r, p, hz⟩
theorem SqK.inj (I : Inv X pins σ H s) {κ : Kd} {a : Addr} {xs ys : List V} (h : SqK X.K κ H a xs) (h' : SqK X.K κ H a ys) : xs = ys := by
  cases κ with
  | lst => exact I.list_inj h h'
  | tup => exact I.tuple_inj h h'
theorem Sq.lt {κ : Kd} {h : Heap} {l : Addr} {xs : Array Value} (g : Sq κ h l xs) : l < h.objs.size := by
  cases κ with
  | lst => obtain ⟨o, e, _⟩ := g; exact Heap.lt_size e
  | tup => obtain ⟨o, e, _⟩ := g; exact Heap.lt_size e
theorem Sq.to {κ : Kd} {h h' : Heap} {l : Addr} {xs : Array Value} (g : Sq κ h l xs) (e : ∀ o, h.get? l = some o → h'.get? l = some o) : Sq κ h' l xs := by
  cases κ with
  | lst => exact g.at e
  | tup => exact g.at e
end
/-- a list or tuple at a, one at b, as they stand at each turn; the items in new pairs -/
def ItM (K : PySem.W.Frag) (κ κ' : Kd) (a b : Addr) : It :=
  ⟨fun i H => ∃ (xs ys : List V) (x y : V), SqK K κ H a xs ∧ SqK K κ' H b ys ∧ xs[i]? = some x ∧ ys[i]? = some y,
    fun i H v H' => ∃ T x y, v = .ref T ∧ H T = none ∧ H' = upd H T (.tup [x, y]) ∧ (∀ xs, SqK K κ H a xs → xs[i]? = some x) ∧ ∀ ys, SqK K κ' H b ys → ys[i]? = some y,
    fun i H => ∃ xs ys : List V, SqK K κ H a xs ∧ SqK K κ' H b ys ∧ (xs.length ≤ i ∨ ys.length ≤ i)⟩
structure Zt (κ κ' : Kd) (z I O p p' a b : Addr) (i : Nat) (h : Heap) : Prop where
  zip : h.get? z = some { cls := .type "zip", dict := none, data := .fields #[.none, .bool false, .bool false, .ref I, .ref O], slots := #[] }
  ins : IsPair h I (.ref p) (.ref p')
  out : ∃ x y, IsPair h O x y
  fst : It1 κ h p a i
  snd : It1 κ' h p' b i
theorem turn_m {P : Program} {w : World} {K : PySem.W.Frag} {es : List Expr} {kk : Nat} {tp : Pos} {κ κ' : Kd} {z I O p p' a b : Addr} (d : ZipApart z I O p p' a b) :
    Turn P w K (.Tuple es kk tp) (ItM K κ κ' a b) [z, I, O, p, p'] z (Zt κ κ' z I O p p' a b) where
  mem := List.mem_cons_self
  obj := fun i h st c hc => by
    simp only [List.mem_cons, List.not_mem_nil, or_false] at hc
    obtain ⟨x, y, ho⟩ := st.out
    rcases hc with rfl | rfl | rfl | rfl | rfl
    · exact ⟨_, st.zip, fun v q => nomatch q⟩
    · exact ⟨_, st.ins, fun v q => nomatch q⟩
    · exact ⟨_, ho, fun v q => nomatch q⟩
    · exact st.fst.obj
    · exact st.snd.obj
  keep := fun i h h' st k => by
    obtain ⟨x, y, ho⟩ := st.out
    exact ⟨k _ (by simp) _ st.zip, k _ (by simp) _ st.ins, ⟨x, y, k _ (by simp) _ ho⟩, st.fst.to fun o => k _ (by simp) o, st.snd.to fun o => k _ (by simp) o⟩
  item := by
    intro X hP hw hK hc i pins s σ H E J hf st ⟨xs, ys, x, y, hx, hy, ex, ey⟩
    subst hP hw hK
    obtain ⟨us, ru, gu, _⟩ := hx.is J
    obtain ⟨vs, rv, gv, _⟩ := hy.is J
    obtain ⟨u, eu, rx⟩ := ru.get ex
    obtain ⟨v, ev, ry⟩ := rv.get ey
    have m : Zp κ κ' z I O p p' a b us.toArray vs.toArray i i .none false s.heap := ⟨st.zip, st.ins, st.out, st.fst.feed gu, st.snd.feed gv⟩
    have zl : z < s.heap.objs.size := Heap.lt_size st.zip
    refine py_item d m (x := u) (y := v) (by simpa using eu) (by simpa using ev) fun h1 m1 t1 z1 u1 => ?_
    refine ⟨_, rfl, wpAny_letOwnedTupleGo_zip (s := { s with heap := h1 }) m1.zip fun h2 zz sb => ?_⟩
    have m2 := m1.setZ (t' := .none) (b' := false) d zz sb
    have t2 : h2.get? s.heap.objs.size = some { cls := .type "tuple", data := .seq #[u, v] } := sb.extBut _ _ (Nat.ne_of_gt zl) t1
    have new : ObjOk X.prog X.w (upd H s.heap.objs.size (.tup [x, y])) h2 s.heap.objs.size (.tup [x, y]) := ⟨by show 2 ≤ sizeLine; decide, [u, v], .cons rx (.cons ry .nil), ⟨_, t2, rfl, _, rfl⟩⟩
    have J1 : Inv X pins σ (upd H s.heap.objs.size (.tup [x, y])) { s with heap := h2 } :=
      J.turnedNew (t' := s.toks) (ch := [z, I, O, p, p']) (fun c o n q => sb.extBut _ _ (fun e => n (by simp [e])) (u1 c o (fun e => n (by simp at e ⊢; rcases e with e | e | e | e <;> simp [e])) q)) hf (Nat.le_refl _) new
    refine ⟨.ref s.heap.objs.size, _, J1, rfl, ⟨_, x, y, rfl, J.hok.fresh (Nat.le_refl _), rfl, fun l hl => by rw [SqK.inj J hl hx]; exact ex, fun l hl => by rw [SqK.inj J hl hy]; exact ey⟩, ⟨m2.zip, m2.ins, m2.out, m2.fst.it, m2.snd.it⟩, fun c hcm => ?_⟩
    have lt : c < s.heap.objs.size := by
      simp only [List.mem_cons, List.not_mem_nil, or_false] at hcm
      obtain ⟨_, _, ho⟩ := st.out
      rcases hcm with rfl | rfl | rfl | rfl | rfl
      · exact zl
      · exact Heap.lt_size st.ins
      · exact Heap.lt_size ho
      · obtain ⟨_, e, _⟩ := st.fst.obj; exact Heap.lt_size e
      · obtain ⟨_, e, _⟩ := st.snd.obj; exact Heap.lt_size e
    rw [upd_ne (Nat.ne_of_lt lt)]
    exact (hf c hcm).1
  done := by
    intro X hP hw hK hc i pins s σ H E J hf st ⟨xs, ys, hx, hy, hend⟩
    subst hP hw hK
    obtain ⟨us, ru, gu, _⟩ := hx.is J
    obtain ⟨vs, rv, gv, _⟩ := hy.is J
    have m : Zp κ κ' z I O p p' a b us.toArray vs.toArray i i .none false s.heap := ⟨st.zip, st.ins, st.out, st.fst.feed gu, st.snd.feed gv⟩
    have l1 := ru.length
    have l2 := rv.length
    have he : us.toArray[i]? = none ∨ vs.toArray[i]? = none := hend.imp (fun q => by simp; omega) fun q => by simp; omega
    exact py_over (J.ok.hd hc) d m he fun h1 u1 => ⟨rfl, J.turnedL (t' := s.toks) (ch := [z, I, O, p, p']) (fun c o n q => u1 c o (fun e => n (by simp at e ⊢; rcases e with e | e | e | e <;> simp [e])) q) hf⟩
  self := fun A i s Q E st h => wpAny_pyIter_zip st.zip h
theorem five_new {X : Cx} {pins : List (Addr × Obj)} {σ : L2.St} {H : Hp} {s : Shared} (I : Inv X pins σ H s) : ∀ c, c ∈ [s.heap.objs.size + 4, s.heap.objs.size + 2, s.heap.objs.size + 3, s.heap.objs.size, s.heap.objs.size + 1] → FpOk X pins H c := fun c hc => by
  have le : s.heap.objs.size ≤ c := by
    simp only [List.mem_cons, List.not_mem_nil, or_false] at hc
    omega
  exact I.fpOk le (I.hok.fresh le)
def iZipM (K : PySem.W.Frag) (ta : TA) : TI := fun σ H R => ta σ H fun vs H1 => ∃ κ κ' a b xs ys, vs = [.ref a, .ref b] ∧ SqK K κ H1 a xs ∧ SqK K κ' H1 b ys ∧ R (ItM K κ κ' a b) H1
theorem pi_zipM {X : Cx} {e e2 : Expr} {ta : TA} {p pos tp : Pos} {es : List Expr} {kk : Nat} (hg : Gl X "zip") (hm : X.mg "zip" = none) (ha : PA X [e, e2] ta)
    (hs : starEach [e, e2] X.env = (false, eval e X.env) :: starEach [e2] X.env := by rfl) (hpl : (backTo pos (starEach [e2] X.env)).any (·.1) = false := by rfl) : PI X (.Tuple es kk tp) (.Call (.Name "zip" p) [e, e2] [] pos) (iZipM X.K ta) := by
  refine ⟨fun pins s σ H R I h => ?_⟩
  refine Call_ (ld_blt I hg hm PyProof.Rows.boot_zip (PyProof.Rows.callWith_type1 (thn (ha.run pos pins s σ H _ I h) fun us s1 ⟨vs, H1, I1, r1, q1⟩ => ?_) hs hpl))
  obtain ⟨κ, κ', a, b, xs, ys, rfl, hx, hy, q⟩ := q1
  obtain ⟨u, v, rfl, rx, ry⟩ := vals2 r1
  cases rx
  cases ry
  obtain ⟨us, ru, gu, _⟩ := hx.is I1
  obtain ⟨ws, rw', gw, _⟩ := hy.is I1
  refine call_zp gu gw fun h' m sz up => wpAny_pyIter_zip m.zip ?_
  exact ⟨s1.heap.objs.size + 4, [s1.heap.objs.size + 4, s1.heap.objs.size + 2, s1.heap.objs.size + 3, s1.heap.objs.size, s1.heap.objs.size + 1], _, _, H1, rfl, I1.kept (t' := s1.toks) up,
    turn_m (PySem.W.ktu_apart s1.heap.objs.size a b gu.lt gw.lt), ⟨m.zip, m.ins, m.out, m.fst.it, m.snd.it⟩, five_new I1, q⟩
/-! ### dict(zip(..)) -/
/-- what a dict gets of two rows: keys, values -/
def tDictZ (K : PySem.W.Frag) (ta : TA) : TE := fun σ H Q => ta σ H fun vs H1 => ∃ κ κ' a b, ∃ (ks : List Key) (ys : List V), vs = [.ref a, .ref b] ∧ SqK K κ H1 a (ks.map kV) ∧ SqK K κ' H1 b ys ∧ New H1 (.dK (mergeK [] (ks.zip ys))) fun p H2 => Q (.ref p) H2
/-! ### zips, dicts of zips, in a walk -/
theorem g_dictZ {K : PySem.W.Frag} {σ : L2.St} {H : Hp} {Q : VK} {ta : TA} (h : ta σ H fun vs H1 => ∃ κ κ' a b, ∃ (ks : List Key) (ys : List V), vs = [.ref a, .ref b] ∧ SqK K κ H1 a (ks.map kV) ∧ SqK K κ' H1 b ys ∧ New H1 (.dK (mergeK [] (ks.zip ys))) fun p H2 => Q (.ref p) H2) : tDictZ K ta σ H Q := h
theorem g_zipM {K : PySem.W.Frag} {σ : L2.St} {H : Hp} {R : It → Hp → Prop} {ta : TA} (h : ta σ H fun vs H1 => ∃ κ κ' a b xs ys, vs = [.ref a, .ref b] ∧ SqK K κ H1 a xs ∧ SqK K κ' H1 b ys ∧ R (ItM K κ κ' a b) H1) : iZipM K ta σ H R := h
/-- a loop over a zip -/
theorem for_M {K : PySem.W.Frag} {κ κ' : Kd} {g : TG} {tb : TS} {D : Ends} {σ : L2.St} {H : Hp} {a b : Addr} {xs ys : List V} (Pv : Nat → L2.St → Hp → Prop) (ha : ∀ i σ H', Pv i σ H' → SqK K κ H' a xs ∧ SqK K κ' H' b ys) (h0 : Pv 0 σ H)
    (hs : ∀ (i : Nat) x y T σ H' H'', xs[i]? = some x → ys[i]? = some y → Pv i σ H' → Fr H' T → H'' T = some (.tup [x, y]) → Same H' H'' → g (.ref T) σ H'' fun σ2 H2 => tb { D with nx := Pv (i + 1), ct := Pv (i + 1), bk := D.nx } σ2 H2)
    (hd : ∀ σ H', Pv (min xs.length ys.length) σ H' → D.nx σ H') : ForW (ItM K κ κ' a b) g tb D σ H :=
  for_any (min xs.length ys.length) Pv h0 (fun i σ H' hi p => ⟨xs, ys, _, _, (ha _ _ _ p).1, (ha _ _ _ p).2, List.getElem?_eq_getElem (by omega), List.getElem?_eq_getElem (by omega)⟩)
    (fun σ H' p => ⟨xs, ys, (ha _ _ _ p).1, (ha _ _ _ p).2, by omega⟩)
    (fun i v σ H1 H2 hi p ⟨T, x, y, e1, hT, e2, fx, fy⟩ => by
      subst e1
      subst e2
      exact hs i x y T σ H1 _ (fx _ (ha _ _ _ p).1) (fy _ (ha _ _ _ p).2) p hT upd_same (same_upd hT)) hd

/-! Classes of the text: methods called, objects made, attributes read and set. -/
open PySem L2 PyProof.Rows PySem.Spec
/-- a method that may be called on objects of its class (no exception leaves it) -/
structure MCal (P : Program) (w : World) (K : PySem.W.Frag) (mg : Str → Option Value) (base : Heap) (k : Nat) (C : Addr) (m : Str) (sp : Sp) : Prop where
  ex : ∃ (f : Addr) (fd : FuncData) (ps : List Str), FnOk P w K mg base CX0 k f fd ps sp ∧ Meth K C m f ∧ Cls K C ∧ Binds K fd ps []
/-- a class whose objects may be made -/
structure KCal (P : Program) (w : World) (K : PySem.W.Frag) (mg : Str → Option Value) (base : Heap) (k : Nat) (x : Str) (C : Addr) (sp : Sp) : Prop where
  ex : ∃ (j : Nat) (f : Addr) (fd : FuncData) (ps : List Str), j + 1 ≤ k ∧ FnOk P w K mg base CX0 j f fd ps sp ∧ Mk K C f ∧ mg x = some (.ref C) ∧ Binds K fd ps []
section
variable {P : Program} {w : World} {K : PySem.W.Frag} {mg : Str → Option Value} {base : Heap}
theorem MCal.mono {j k : Nat} {C : Addr} {m : Str} {sp : Sp} (c : MCal P w K mg base j C m sp) (h : j ≤ k) : MCal P w K mg base k C m sp := by
  obtain ⟨f, fd, ps, F, a, b, d⟩ := c.ex
  exact ⟨f, fd, ps, F.mono h, a, b, d⟩
theorem KCal.mono {j k : Nat} {x : Str} {C : Addr} {sp : Sp} (c : KCal P w K mg base j x C sp) (h : j ≤ k) : KCal P w K mg base k x C sp := by
  obtain ⟨i, f, fd, ps, hi, F, a, b, d⟩ := c.ex
  exact ⟨i, f, fd, ps, Nat.le_trans hi h, F, a, b, d⟩
theorem mcal_mk {m q : Str} {C : Addr} {params : Arguments} {body : List Stmt} {scope : Scope} {f : Addr} {fd : FuncData} {N ps : List Str} {k : Nat} {sp : Sp} (F : FunD K m q params body scope [] [] f fd) (hm : Meth K C m f) (hc : Cls K C) (S : FnScope N ps scope)
    (b : Binds K fd ps []) (len : ∀ vs H Q E, sp vs H Q E → vs.length = ps.length)
    (hbody : ∀ (cdv : Value) (A : Around) (outer : List Env) (s : Shared) (H : Hp) (vs : List V) (Q : VK) (E : XK), Room k (A.deeper (envOfC q scope s.heap.objs.size f cdv)) → sp vs H Q E →
      ∃ t, PSs (cxOf CX0 P w K mg base N q scope f cdv A outer s H E) body t ∧ t { nx := fun _ H' => Q .non H', rt := Q } (start N vs) H) : MCal P w K mg base (k + 1) C m sp :=
  ⟨f, fd, ps, F.ok S len hbody, hm, hc, b⟩
theorem kcal_mk {x q : Str} {C : Addr} {params : Arguments} {body : List Stmt} {scope : Scope} {f : Addr} {fd : FuncData} {N ps : List Str} {k : Nat} {sp : Sp} (F : FunD K "__init__" q params body scope [] [] f fd) (hm : Mk K C f) (hg : mg x = some (.ref C)) (S : FnScope N ps scope)
    (b : Binds K fd ps []) (len : ∀ vs H Q E, sp vs H Q E → vs.length = ps.length)
    (hbody : ∀ (cdv : Value) (A : Around) (outer : List Env) (s : Shared) (H : Hp) (vs : List V) (Q : VK) (E : XK), Room k (A.deeper (envOfC q scope s.heap.objs.size f cdv)) → sp vs H Q E →
      ∃ t, PSs (cxOf CX0 P w K mg base N q scope f cdv A outer s H E) body t ∧ t { nx := fun _ H' => Q .non H', rt := Q } (start N vs) H) : KCal P w K mg base (k + 2) x C sp :=
  ⟨k + 1, f, fd, ps, Nat.le_refl _, F.ok S len hbody, hm, hg, b⟩
end
section
variable {X : Cx} {k : Nat} {x m : Str} {C : Addr} {sp : Sp} {p apos pos p0 : Pos} {o e : Expr} {es : List Expr} {ta : TE} {t : TA}
theorem pe_mcal {pl : Sem Bool} (he : PE X o ta) (c : MCal X.prog X.w X.K X.mg X.base k C m sp) (hr : Room k X.A) (ha : PA X (e :: es) t)
    (hst : starEach (e :: es) X.env = (false, eval e X.env) :: starEach es X.env := by rfl) (hpl : (backTo pos (starEach es X.env)).any (·.1) = false := by rfl)
    (ht : eval (.Call (.Attribute o m apos) (e :: es) [] pos) X.env = (do
      let ov ← eval o X.env
      standAt apos.atName
      let (f, first) ← holding [ov] (getMethod ov m pl)
      callWith pos f first (backTo pos (starEach (e :: es) X.env)) (backToKw pos (keywordEach [] X.env))) := by rfl) :
    PE X (.Call (.Attribute o m apos) (e :: es) [] pos) (tMeth C m sp [] E0 ta t) := by
  obtain ⟨f, fd, ps, F, hm, hc, b⟩ := c.ex
  exact pe_meth he hc hm F hr b .nil pass0 ha hst hpl ht
theorem pe_kcal (c : KCal X.prog X.w X.K X.mg X.base k x C sp) (hr : Room k X.A) (hg : Gl X x) (ha : PA X (e :: es) t)
    (hdb : (x == ("__debug__" : Str)) = false := by decide) (he : starEach (e :: es) X.env = (false, eval e X.env) :: starEach es X.env := by rfl) (hpl : (backTo pos (starEach es X.env)).any (·.1) = false := by rfl) :
    PE X (.Call (.Name x p0) (e :: es) [] pos) (tMake C sp [] E0 t) := by
  obtain ⟨j, f, fd, ps, hj, F, hm, hC, b⟩ := c.ex
  exact pe_make hm F (hr.mono hj) hg hC b .nil pass0 ha hdb he hpl
end
/-! int of a text too -/
def rIntA : List V → Hp → VK → Prop := fun xs H Q => rIntG xs H Q ∨ rIntS xs H Q
/-! fields, methods, new objects, in steps -/
def FldR (K : PySem.W.Frag) (f : Str) (x : V) (H : Hp) (Q : VK) : Prop := ∃ a C dx fs v, x = .ref a ∧ H a = some (.ins C dx fs) ∧ Cls K C ∧ NoAttr K C f ∧ fs.lookup f = some v ∧ Q v H
def SFldR (K : PySem.W.Frag) (f : Str) (y x : V) (H : Hp) (R : Hp → Prop) : Prop := ∃ a C dx fs, x = .ref a ∧ H a = some (.ins C dx fs) ∧ Cls K C ∧ NoAttr K C f ∧ fs.length < 1000 ∧ R (upd H a (.ins C dx (putF f y fs)))
def MethR (C : Addr) (m : Str) (x : V) (H : Hp) (R : V → Hp → Prop) : Prop := ∃ a dx fs, x = .ref a ∧ H a = some (.ins C dx fs) ∧ fs.lookup m = none ∧ R x H
def MakeR (C : Addr) (H : Hp) (R : Addr → Hp → Prop) : Prop := ∀ x dx, H x = none → H dx = none → dx ≠ x → R x (upd (upd H dx (.own x)) x (.ins C dx []))
section
variable {K : PySem.W.Frag} {f m : Str} {C a dx : Addr} {fs fs' : List (Str × V)} {v y : V} {H : Hp} {Q : VK} {R : Hp → Prop} {ta tv : TE} {t : TA} {σ : L2.St} {D : Ends} {sp : Sp} {E : XK}
theorem g_fld (h : ta σ H fun x H1 => FldR K f x H1 Q) : tFld K ta f σ H Q := h
theorem g_fldr (he : H a = some (.ins C dx fs)) (hc : Cls K C) (hn : NoAttr K C f) (hv : fs.lookup f = some v) (q : Q v H) : FldR K f (.ref a) H Q := ⟨a, C, dx, fs, v, rfl, he, hc, hn, hv, q⟩
theorem g_sfld (h : tv σ H fun y H1 => ta σ H1 fun x H2 => SFldR K f y x H2 fun H3 => D.nx σ H3) : sFld K ta tv f D σ H := h
theorem g_sfldr (he : H a = some (.ins C dx fs)) (hc : Cls K C) (hn : NoAttr K C f) (hl : fs.length < 1000) (hp : putF f y fs = fs') (q : Put H a (.ins C dx fs') R) : SFldR K f y (.ref a) H R :=
  ⟨a, C, dx, fs, rfl, he, hc, hn, hl, by rw [hp]; exact q.at⟩
theorem g_meth (h : ta σ H fun x H1 => MethR C m x H1 fun x H1 => t σ H1 fun vs H2 => sp (x :: (vs ++ [])) H2 Q E) : tMeth C m sp [] E ta t σ H Q := h
theorem g_methr {R : V → Hp → Prop} (he : H a = some (.ins C dx fs)) (hn : fs.lookup m = none) (q : R (.ref a) H) : MethR C m (.ref a) H R := ⟨a, dx, fs, rfl, he, hn, q⟩
theorem g_make (h : t σ H fun vs H1 => MakeR C H1 fun x H2 => sp (.ref x :: (vs ++ [])) H2 (fun v H3 => v = .non ∧ Q (.ref x) H3) E) : tMake C sp [] E t σ H Q := h
theorem g_maker {R : Addr → Hp → Prop} (q : ∀ x dx H', Fr H x → H' x = some (.ins C dx []) → Same H H' → R x H') : MakeR C H R := fun x dx hx hd hn => by
  refine q x dx _ hx upd_same fun b o hb => ?_
  have hbx : b ≠ x := fun e => by rw [e, hx] at hb; cases hb
  have hbd : b ≠ dx := fun e => by rw [e, hd] at hb; cases hb
  rw [upd_ne hbx, upd_ne hbd]
  exact hb
end


/-! ### enumerate of a tuple -/
theorem meets_enumB {v : Value} {o : Obj} {G : Heap → Prop} (B : Begins v o G) : Meets (Builtin.«enumerate.__new__» ⟨[.type "enumerate", v], []⟩) (fun _ R s => G s.heap ∧
    R (.ok (.ret (.ref (s.heap.push o).objs.size))) { s with heap := (s.heap.push o).push { cls := .type "enumerate", data := .fields #[.none, .bool false, .ref s.heap.objs.size, rawInt 0, .none, .none] } }) := by
  refine .of_wp fun prog w A R s hyp => ?_
  obtain ⟨hp, g, d, tk, os⟩ := s
  obtain ⟨begins, rest⟩ := hyp
  have sub := sub_enumerate
  have walks : ∀ {A' : Around} {E : Value → Shared → Prop} {Q : Value → Shared → Prop}, Q (.ref hp.objs.size) ⟨hp.push o, g, d, tk, os⟩ → wpAny (model prog w) A' (pyIter v) Q E ⟨hp, g, d, tk, os⟩ := B.iter prog w _ _ ⟨hp, g, d, tk, os⟩ _ begins
  wp_walk using walks
  refine wpAny_stack_any fun st => wpAny_pure ?_
  split <;> try (rename_i c _ _ _ _ _; cases (c == Value.type "enumerate"))
  all_goals (wp_walk using walks; exact ⟨_, rfl, rest⟩)
/-- the items of the tuple at a, each in a new pair with its number -/
def Itet (K : PySem.W.Frag) (a : Addr) : It where
  go i H := ∃ (xs : List V) (x : V), SqT K H a xs ∧ xs[i]? = some x
  yld i H v H' := ∃ T x, v = .ref T ∧ H T = none ∧ H' = upd H T (.tup [.int (i : Nat), x]) ∧ ∀ xs, SqT K H a xs → xs[i]? = some x
  stop i H := ∃ xs : List V, SqT K H a xs ∧ xs.length = i
theorem turn_et {P : Program} {w : World} {K : PySem.W.Frag} {es : List Expr} {kk : Nat} {tp : Pos} {a e p : Addr} {us : Array Value} (na : a ≠ p) (ne : e ≠ p) (nea : e ≠ a) :
    Turn P w K (.Tuple es kk tp) (Itet K a) [e, p] e (fun i h => (∃ old, IsEnum h e p ((i : Nat) : Int) old) ∧ h.IsTupleIter p a i) where
  mem := List.mem_cons_self ..
  obj := by
    rintro i h ⟨⟨old, en⟩, ob, at_, _, dat⟩ b hb
    rcases List.mem_cons.mp hb with rfl | hb
    · exact ⟨_, en, nofun⟩
    · rw [List.mem_singleton.mp hb]
      exact ⟨ob, at_, fun v q => by rw [dat] at q; cases q⟩
  keep := by
    rintro i h h' ⟨⟨old, en⟩, it⟩ up
    exact ⟨⟨old, up e (by simp) _ en⟩, it.at fun o q => up p (by simp) o q⟩
  item := by
    rintro X rfl rfl rfl calm i pins s σ H E I new ⟨⟨old, en⟩, it⟩ ⟨xs, x, sq, at_⟩
    obtain ⟨its, rv, tup, _⟩ := I.tuple sq
    obtain ⟨u, hu, ru⟩ := rv.get at_
    have le : e < s.heap.objs.size := Heap.lt_size en
    have lp : p < s.heap.objs.size := by obtain ⟨_, q, _⟩ := it; exact Heap.lt_size q
    have D : Draws X.prog X.w X.A.in1 p [p, a] its.toArray.size (fun i v => its.toArray[i]? = some v) (fun i h => h.IsTupleIter p a i ∧ h.IsTuple a its.toArray) := Draws.tuple (show X.A.in1.handled = none from I.ok.hd calm) p a na its.toArray
    refine wpAny_pyNext_enum_itemC (St := fun i h => h.IsTupleIter p a i ∧ h.IsTuple a its.toArray) D en ⟨it, tup⟩ (i := i) (by rw [List.size_toArray]; exact (List.getElem?_eq_some_iff.mp hu).1) ne (by simp [ne, nea]) fun y h1 tk hy en1 st1 pair size1 up1 => ?_
    obtain rfl : y = u := by
      have e1 : its[i]? = some y := by simpa using hy
      exact Option.some.inj (e1.symm.trans hu)
    refine ⟨_, rfl, wpAny_letOwnedTupleGo_enum (s := { s with heap := h1, toks := tk + 1 }) en1 fun h2 en2 same2 => ?_⟩
    have pair2 : h2.get? s.heap.objs.size = some { cls := .type "tuple", data := .seq #[.int i tk, y] } := (same2.2 _ (Nat.ne_of_gt le)).trans pair
    have made : ObjOk X.prog X.w (upd H s.heap.objs.size (.tup [.int (i : Nat), x])) h2 s.heap.objs.size (.tup [.int (i : Nat), x]) :=
      ⟨by show 2 ≤ sizeLine; decide, [.int i tk, y], .cons ⟨_, rfl⟩ (.cons ru .nil), _, pair2, rfl, _, rfl⟩
    have stays : ∀ b ob, b ∉ [e, p] → s.heap.get? b = some ob → h2.get? b = some ob := fun b ob hb q => by
      simp only [List.mem_cons, List.not_mem_nil, or_false, not_or] at hb
      exact (same2.2 b hb.1).trans (up1 b ob hb.1 hb.2 q)
    have J := I.turnedNew (t' := tk + 1) (ch := [e, p]) stays new (Nat.le_refl _) made
    refine ⟨.ref s.heap.objs.size, _, J, rfl, ⟨_, x, rfl, I.hok.fresh (Nat.le_refl _), rfl, fun ys hy => by rw [I.tuple_inj hy sq]; exact at_⟩, ⟨⟨y, ?_⟩, st1.1.at fun o q => (same2.2 p ne.symm).trans q⟩, fun b hb => ?_⟩
    · rw [show ((i + 1 : Nat) : Int) = (i : Int) + 1 from by omega]
      exact en2
    · have lb : b < s.heap.objs.size := by
        rcases List.mem_cons.mp hb with rfl | hb
        · exact le
        · rw [List.mem_singleton.mp hb]; exact lp
      rw [upd_ne (Nat.ne_of_lt lb)]
      exact (new b hb).1
  done := by
    rintro X rfl rfl rfl calm i pins s σ H E I new ⟨⟨old, en⟩, it⟩ ⟨xs, sq, over⟩
    obtain ⟨its, rv, tup, _⟩ := I.tuple sq
    have D : Draws X.prog X.w X.A.in1 p [p, a] its.toArray.size (fun i v => its.toArray[i]? = some v) (fun i h => h.IsTupleIter p a i ∧ h.IsTuple a its.toArray) := Draws.tuple (show X.A.in1.handled = none from I.ok.hd calm) p a na its.toArray
    have ei : its.toArray.size = i := by rw [List.size_toArray, ← rv.length]; exact over
    rw [ei] at D
    obtain ⟨f0, f1, f2, f3, f4, f5⟩ := new p (by simp)
    exact wpAny_pyNext_enum_endD D en ⟨it, tup⟩ fun h' up => ⟨rfl, I.turned (t' := s.toks) (fun b o hb q => up b o hb q) f0 f1 f3 f4 f5⟩
  self := by
    rintro A i s Q E ⟨⟨_, en⟩, _⟩ q
    exact wpAny_pyIter_enum en q
def iEnumT (K : PySem.W.Frag) (ta : TA) : TI := fun σ H R => ta σ H fun vs H1 => ∃ a xs, vs = [.ref a] ∧ SqT K H1 a xs ∧ R (Itet K a) H1
theorem pi_enumT {X : Cx} {e : Expr} {ta : TA} {p pos tp : Pos} {es : List Expr} {kk : Nat} (hg : Gl X "enumerate") (hm : X.mg "enumerate" = none) (ha : PA X [e] ta) (hs : starEach [e] X.env = [(false, eval e X.env)] := by rfl) :
    PI X (.Tuple es kk tp) (.Call (.Name "enumerate" p) [e] [] pos) (iEnumT X.K ta) := by
  constructor
  intro pins s σ H R I want
  refine Call_ (ld_blt I hg hm boot_enumerate (PyProof.Rows.callWith_type1 (thn (ha.run pos pins s σ H _ I want) fun us s1 got => ?_) hs rfl))
  obtain ⟨vs, H1, J, rel, a, xs, rfl, sq, q⟩ := got
  obtain ⟨u, rfl, ru⟩ := vals1 rel
  obtain rfl : u = Value.ref a := ru
  obtain ⟨its, rv, tup, _⟩ := J.tuple sq
  have la : a < s1.heap.objs.size := by obtain ⟨_, q, _⟩ := tup; exact Heap.lt_size q
  have B := begins_tuple a its.toArray
  refine callType_new F.called_enumerate (by decide) (F.typeCall_enumerate_1 _) (F.newCall_enumerate_1 _) (fun obj => F.args_object_init_2 obj _) F.entry_enumerate_new (meets_enumB B) ⟨tup, ?_⟩
  have size1 : (s1.heap.push { cls := .type "tuple_iterator", data := .fields #[.ref a, .int 0 0] }).objs.size = s1.heap.objs.size + 1 := Heap.size_push ..
  have up : ∀ b o, s1.heap.get? b = some o → ((s1.heap.push { cls := .type "tuple_iterator", data := .fields #[.ref a, .int 0 0] }).push { cls := .type "enumerate", data := .fields #[.none, .bool false, .ref s1.heap.objs.size, rawInt 0, .none, .none] }).get? b = some o :=
    fun b o q => Heap.get?_push_of_some _ (Heap.get?_push_of_some _ q)
  have en : IsEnum ((s1.heap.push { cls := .type "tuple_iterator", data := .fields #[.ref a, .int 0 0] }).push { cls := .type "enumerate", data := .fields #[.none, .bool false, .ref s1.heap.objs.size, rawInt 0, .none, .none] }) (s1.heap.objs.size + 1) s1.heap.objs.size 0 .none := by
    have q := Heap.get?_push_size (s1.heap.push { cls := .type "tuple_iterator", data := .fields #[.ref a, .int 0 0] }) (o := { cls := .type "enumerate", data := .fields #[.none, .bool false, .ref s1.heap.objs.size, rawInt 0, .none, .none] }) rfl
    rw [size1] at q
    exact q
  have itr : ((s1.heap.push { cls := .type "tuple_iterator", data := .fields #[.ref a, .int 0 0] }).push { cls := .type "enumerate", data := .fields #[.none, .bool false, .ref s1.heap.objs.size, rawInt 0, .none, .none] }).IsTupleIter s1.heap.objs.size a 0 :=
    ⟨_, Heap.get?_push_of_some _ (Heap.get?_push_size _ rfl), rfl, rfl⟩
  rw [size1]
  refine ⟨⟨_, en, rfl⟩, wpAny_pyIter_enum en ⟨s1.heap.objs.size + 1, [s1.heap.objs.size + 1, s1.heap.objs.size], _, _, H1, rfl, J.kept (t' := s1.toks) up, turn_et (us := #[]) (Nat.ne_of_lt la) (Nat.succ_ne_self _) (Nat.ne_of_gt (Nat.lt_succ_of_lt la)), ⟨⟨.none, en⟩, itr⟩, fun b hb => ?_, q⟩⟩
  have lb : s1.heap.objs.size ≤ b := by
    rcases List.mem_cons.mp hb with rfl | hb
    · exact Nat.le_add_right _ _
    · rw [List.mem_singleton.mp hb]
      exact Nat.le_refl _
  exact J.fpOk lb (J.hok.fresh lb)
theorem g_enumT {K : PySem.W.Frag} {σ : L2.St} {H : Hp} {R : It → Hp → Prop} {ta : TA} (h : ta σ H fun vs H1 => ∃ a xs, vs = [.ref a] ∧ SqT K H1 a xs ∧ R (Itet K a) H1) : iEnumT K ta σ H R := h

/-! ### dicts whose keys are nodes: (a number, a tuple of numbers) -/
abbrev NRow := Int × List Int
def nkey (r : NRow) : NestedKey := .tup [.num r.1, .tup (r.2.map NestedKey.num)]
theorem num_inj : ∀ {xs ys : List Int}, xs.map NestedKey.num = ys.map NestedKey.num → xs = ys
  | [], [], _ => rfl
  | [], _ :: _, h => by cases h
  | _ :: _, [], h => by cases h
  | x :: xs, y :: ys, h => by
    rw [List.map_cons, List.map_cons] at h
    injection h with h1 h2
    injection h1 with h1
    rw [h1, num_inj h2]
theorem nkey_inj {r q : NRow} (h : nkey r = nkey q) : r = q := by
  obtain ⟨a, as⟩ := r
  obtain ⟨b, bs⟩ := q
  unfold nkey at h
  injection h with h
  injection h with h1 h2
  injection h1 with h1
  injection h2 with h2 _
  injection h2 with h2
  have h1' : a = b := h1
  have h2' : as = bs := num_inj h2
  rw [h1', h2']
theorem depthAll_nums : ∀ xs : List Int, NestedKey.depthAll (xs.map NestedKey.num) = 0
  | [] => rfl
  | x :: xs => by
    rw [List.map_cons, NestedKey.depthAll, depthAll_nums xs]
    rfl
theorem nkey_depth (r : NRow) : (nkey r).depth ≤ 8 := by
  unfold nkey
  rw [NestedKey.depth, NestedKey.depthAll, NestedKey.depthAll, NestedKey.depthAll, NestedKey.depth, NestedKey.depth, depthAll_nums]
  decide
/-- at a: the tuple of a node -/
def RowAt (H : Hp) (a : Addr) (r : NRow) : Prop := ∃ t, H a = some (.tup [.int r.1, .ref t]) ∧ H t = some (.tup (r.2.map V.int))
theorem RowAt.inj {H : Hp} {a : Addr} {r q : NRow} (h1 : RowAt H a r) (h2 : RowAt H a q) : r = q := by
  obtain ⟨t, e1, e2⟩ := h1
  obtain ⟨u, f1, f2⟩ := h2
  rw [e1] at f1
  injection f1 with f1
  injection f1 with f1
  injection f1 with f1 f3
  injection f1 with f1
  injection f3 with f3
  injection f3 with f3
  rw [← f3, e2] at f2
  injection f2 with f2
  injection f2 with f2
  have : ∀ {xs ys : List Int}, xs.map V.int = ys.map V.int → xs = ys := by
    intro xs
    induction xs with
    | nil => intro ys h; cases ys with | nil => rfl | cons _ _ => cases h
    | cons x xs ih =>
      intro ys h
      cases ys with
      | nil => cases h
      | cons y ys =>
        rw [List.map_cons, List.map_cons] at h
        injection h with h1 h2
        injection h1 with h1
        rw [h1, ih h2]
  exact Prod.ext f1 (this f2)
abbrev NEnt := NRow × Addr × V
abbrev NRel (xs : List NEnt) (qs : List (NestedKey × Addr × Value)) : Prop := Paired (fun (x : NEnt) (q : NestedKey × Addr × Value) => q.1 = nkey x.1 ∧ q.2.1 = x.2.1 ∧ RelV x.2.2 q.2.2) xs qs
structure DN0 (w : World) (h : Heap) (d : Addr) (xs : List NEnt) : Prop where
  ex : xs.length ≤ sizeLine ∧ (d == sysModules) = false ∧ ∃ qs, NRel xs qs ∧ ∃ o es ep, h.get? d = some o ∧ o.ExactDict ∧ o.data = .dict es ep ∧ es.toList = qs.map (fun q => (⟨q.1.hash w, .ref q.2.1, q.2.2⟩ : DictEntry)) ∧ (qs.map (·.1)).Nodup
/-- a dict whose keys are nodes -/
def DNO (w : World) (d : Addr) (xs : List NEnt) : HO := .ext fun h => DN0 w h d xs
def valN (xs : List NEnt) (r : NRow) : Option V := (xs.find? fun x => decide (x.1 = r)).map (·.2.2)
theorem valN_pos {x : NEnt} {xs : List NEnt} {r : NRow} (h : x.1 = r) : valN (x :: xs) r = some x.2.2 := by
  unfold valN
  rw [List.find?_cons_of_pos (by simpa using h)]
  rfl
theorem valN_neg {x : NEnt} {xs : List NEnt} {r : NRow} (h : x.1 ≠ r) : valN (x :: xs) r = valN xs r := by
  unfold valN
  rw [List.find?_cons_of_neg (by simpa using h)]
/-- the dict at d holds xs, its keys stand -/
structure NTab (w : World) (H : Hp) (d : Addr) (xs : List NEnt) : Prop where
  at_ : H d = some (DNO w d xs) ∨ (xs = [] ∧ H d = some (.dK []))
  keys : ∀ x ∈ xs, RowAt H x.2.1 x.1
theorem NRel.val {xs : List NEnt} {qs : List (NestedKey × Addr × Value)} (r : NRel xs qs) (k : NRow) : RelO (valN xs k) ((atKey qs (nkey k)).map (·.2)) := by
  induction r with
  | nil => exact True.intro
  | @cons p q ps qs h t ih =>
    obtain ⟨h1, _, h2⟩ := h
    by_cases e : p.1 = k
    · have e' : q.1 = nkey k := by rw [h1, e]
      have b : atKey (q :: qs) (nkey k) = some q.2 := by simp [atKey, List.find?_cons, e']
      rw [valN_pos e, b]; exact h2
    · have e' : ¬ q.1 = nkey k := fun z => e (nkey_inj (h1.symm.trans z))
      have b : atKey (q :: qs) (nkey k) = atKey qs (nkey k) := by simp [atKey, List.find?_cons, e']
      rw [valN_neg e, b]; exact ih
section
variable {P : Program} {w : World} {H : Hp} {h : Heap} {a : Addr}
theorem ints_all {h : Heap} : ∀ {ts : List Int} {its : List Value}, Vals (ts.map V.int) its → NestedAll h (ts.map NestedKey.num) its
  | [], _, .nil => .nil
  | t :: ts, _, .cons r rs => by
    obtain ⟨tk, rfl⟩ := r
    exact .cons (.int _ _) (ints_all rs)
theorem row_is {r : NRow} (ok : HOk P w H h) (e : RowAt H a r) : (nestedKind P w).is h (nkey r) a := by
  obtain ⟨t, e1, e2⟩ := e
  obtain ⟨_, its, v, o, h1, h2, n, h3⟩ := (show ObjOk P w H h a (.tup [.int r.1, .ref t]) from ok a _ e1)
  obtain ⟨_, its2, v2, o2, g1, g2, n2, g3⟩ := (show ObjOk P w H h t (.tup (r.2.map V.int)) from ok t _ e2)
  refine ⟨?_, nkey_depth r⟩
  refine NestedIs.tup h1 h2 h3 ?_
  cases v with
  | cons r1 v =>
    cases v with
    | cons r2 v =>
      cases v
      obtain ⟨tk, rfl⟩ := r1
      cases r2
      exact .cons (.int _ _) (.cons (.tup g1 g2 g3 (by simpa using ints_all v2)) .nil)
theorem dN_of {xs : List NEnt} (ok : HOk P w H h) (e : NTab w H a xs) : xs.length ≤ sizeLine ∧ (a == sysModules) = false ∧ ∃ qs, NRel xs qs ∧ h.DictOfH (nestedKind P w) a qs := by
  obtain ⟨e1 | ⟨rfl, e1⟩, ks⟩ := e
  · obtain ⟨⟨z, hd, qs, r, o, es, ep, h1, h2, h3, h4, h5⟩, hx0⟩ := (show ObjOk P w H h a (DNO w a xs) from ok a _ e1)
    refine ⟨z, hd, qs, r, o, es, ep, h1, h2, h3, h4, ?_, h5⟩
    clear h4 h5 z e1 hx0
    induction r with
    | nil => intro x hx; cases hx
    | @cons p q ps qs hq t ih =>
      intro x hx
      rcases List.mem_cons.mp hx with e | hx
      · subst e
        rw [hq.1, hq.2.1]
        exact row_is ok (ks p List.mem_cons_self)
      · exact ih (fun x hx => ks x (List.mem_cons_of_mem _ hx)) x hx
  · obtain ⟨z, hd, vs, r, o, es, ep, h1, h2, h3, h4, h5, h6⟩ := dk_of ok e1
    cases r
    have hes : es.toList = [] := by
      cases he : es.toList with
      | nil => rfl
      | cons x l =>
        rw [he] at h5
        cases h5
    exact ⟨Nat.zero_le _, hd, [], .nil, o, es, ep, h1, h2, h3, hes, (fun x hx => nomatch hx), List.nodup_nil⟩
end
section
variable {X : Cx} {pins : List (Addr × Obj)} {σ : L2.St} {H : Hp} {s : Shared} {a d : Addr} {v : V} {r : NRow} {u : Value} {A : Around} {E : Value → Shared → Prop} {xs : List NEnt}
theorem roomN (hu : A.units + 20 < cLine) : (nestedKind X.prog X.w).room A.in1 := by
  show A.units + 1 + 8 < cLine
  omega
def rInN (w : World) (neg : Bool) : R2 := fun x y H Q => ∃ a d r xs, x = .ref a ∧ y = .ref d ∧ RowAt H a r ∧ NTab w H d xs ∧ Q (.bl (if neg then !(valN xs r).isSome else (valN xs r).isSome)) H
theorem op_notInN (hu : X.A.units + 20 < cLine) : OpR X (compareOp .NotIn) (rInN X.w true) := by
  intro pins s σ H x y v u Q I rx ry h
  obtain ⟨a, d, r, xs, rfl, rfl, ra, td, q⟩ := h
  cases rx
  cases ry
  obtain ⟨z, hd, qs, rel, dd⟩ := dN_of I.hok td
  refine wpAny_notIn_heap (roomN hu) (row_is I.hok ra) hd dd ?_
  have e := (rel.val r).isSome_eq
  rw [Option.isSome_map] at e
  rw [← e]
  exact ⟨.bl _, H, I.tok _, rfl, q⟩
def rGetN (w : World) : R2 := fun x y H Q => ∃ a d r xs v, x = .ref d ∧ y = .ref a ∧ RowAt H a r ∧ NTab w H d xs ∧ valN xs r = some v ∧ Q v H
theorem ix_dictN (hu : X.A.units + 20 < cLine) : IxR X (rGetN X.w) := by
  intro value slice pins s σ H x y v u Q I rx ry h hs
  obtain ⟨a, d, r, xs, z, rfl, rfl, ra, td, hv, q⟩ := h
  cases rx
  cases ry
  obtain ⟨_, hd, qs, rel, dd⟩ := dN_of I.hok td
  obtain ⟨w', hw, rw'⟩ := RelO.some_of (v := z) (o := (atKey qs (nkey r)).map (·.2)) (by rw [← hv]; exact rel.val r)
  obtain ⟨p, hp, hp2⟩ := Option.map_eq_some_iff.mp hw
  refine tail_any dd.typeIs PySem.F.slot_dict_getitem.lookup (wpAny_getItem_heap (roomN hu) (row_is I.hok ra) dd hp ?_) hs
  rw [hp2]
  exact ⟨z, H, I.tok _, rw', q⟩
theorem NRel.snoc {xs : List NEnt} {qs : List (NestedKey × Addr × Value)} (rel : NRel xs qs) {r : NRow} {a : Addr} {v : V} {u : Value} (rv : RelV v u) : NRel (xs ++ [(r, a, v)]) (qs ++ [(nkey r, a, u)]) := Paired.snoc rel ⟨rfl, rfl, rv⟩
/-- a new node's number is kept -/
def rSetN (w : World) : TSet := fun o i v H Q => ∃ a d r xs, o = .ref d ∧ i = .ref a ∧ RowAt H a r ∧ NTab w H d xs ∧ valN xs r = none ∧ xs.length < sizeLine ∧ Put H d (DNO w d (xs ++ [(r, a, v)])) Q
theorem set_dN (hu : X.A.units + 20 < cLine) : PSet X (rSetN X.w) := by
  intro pins s σ H o i v ov iv u Q I ro ri rv h
  obtain ⟨a, d, r, xs, rfl, rfl, ra, td, hn, hl, q⟩ := h
  cases ro
  cases ri
  obtain ⟨z, hd, qs, rel, dd⟩ := dN_of I.hok td
  have hz : qs.length ≤ sizeLine := by rw [← Paired.length rel]; exact z
  have hnone : atKey qs (nkey r) = none := by
    have e := (rel.val r).isSome_eq
    rw [Option.isSome_map, hn] at e
    cases h : atKey qs (nkey r) with
    | none => rfl
    | some p => rw [h] at e; cases e
  have mu : Mut (H d) := by
    rcases td.at_ with e | ⟨_, e⟩ <;> rw [e] <;> exact True.intro
  refine wpAny_setItem_heap (hsz := hz) (roomN hu) (row_is I.hok ra) dd fun h' dd' hs => ⟨_, ?_, q.at⟩
  rw [storedH_new hnone] at dd'
  obtain ⟨oo, es, ep, hq, h2, h3, h4, _, h5⟩ := dd'
  refine d_write I mu hs ⟨oo, hq⟩ ⟨⟨by rw [List.length_append, List.length_singleton]; omega, hd, _, rel.snoc rv, oo, es, ep, hq, h2, h3, h4, h5⟩, ⟨oo, hq⟩, fun h1 h2' p k => ?_⟩
  obtain ⟨z', hd', qs', rel', o', es', ep', ho', r'⟩ := p.ex
  exact ⟨z', hd', qs', rel', o', es', ep', k _ ho', r'⟩
end
theorem hu20_of {k : Nat} {A : Around} (hr : Room k A) : A.units + 20 < cLine := by have := hu2_of hr; omega
section
variable {X : Cx}
def rInGN (K : PySem.W.Frag) (w : World) (neg : Bool) : R2 := fun x y H Q => rInG K w neg x y H Q ∨ rInN w neg x y H Q
theorem op_notInGN (hu : X.A.units + 20 < cLine) : OpR X (compareOp .NotIn) (rInGN X.K X.w true) := (op_notInG (by omega)).or (op_notInN hu)
def tIxN (K : PySem.W.Frag) (w : World) (ta tb : TE) : TE := tOp (fun x y H Q => rIxG K w x y H Q ∨ rGetN w x y H Q) ta tb
theorem pe_ixN {a b : Expr} {ta tb : TE} {pos : Pos} (hu : X.A.units + 20 < cLine) (ha : PE X a ta) (hb : PE X b tb) (hs : PlainIx b) : PE X (.Subscript a b pos) (tIxN X.K X.w ta tb) := pe_ix ((ix_any (by omega)).or (ix_dictN hu)) ha hb hs
def rSetGN (w : World) : TSet := fun o i v H Q => rSetG o i v H Q ∨ rSetN w o i v H Q
theorem set_anyN (hu : X.A.units + 20 < cLine) : PSet X (rSetGN X.w) := by
  intro pins s σ H o i v ov iv u Q I ro ri rv h
  rcases h with h | h
  · exact set_any (by omega) pins s σ H o i v ov iv u Q I ro ri rv h
  · exact set_dN hu pins s σ H o i v ov iv u Q I ro ri rv h
/-- in, not in: lists of data of any depth too -/
def rInGD (K : PySem.W.Frag) (w : World) (neg : Bool) : R2 := fun x y H Q => rInG K w neg x y H Q ∨ (if neg then rNotInD K x y H Q else rInD K x y H Q)
end

local macro_rules | `(tactic| walk_at "g1") => `(tactic| first
  | with_reducible refine g_seq ?_ | with_reducible refine g_asg ?_ | with_reducible refine g_op ?_ | with_reducible refine g_ixop ?_ | ((with_reducible refine g_ixL (xs := ?gx) (v := ?gv) (SqL.of ?gh) ?ge ?_); (case gh => assumption); (case ge => exact rfl)) | with_reducible refine g_c ?_
  | ((with_reducible refine g_var (v := ?gv) ?gh ?_); (case gh => exact rfl))
  | ((with_reducible refine g_name (σ' := ?gs) ?gh ?_); (case gh => (dsimp only [List.set]; exact rfl)))
  | with_reducible refine g_cons ?_ | with_reducible refine g_nil ?_ | with_reducible refine g_ifs ?_ | with_reducible refine g_test ?_ | with_reducible refine g_bl ?_ | with_reducible refine g_cb ?_
  | with_reducible refine g_addI ?_ | with_reducible refine g_subI ?_ | with_reducible refine g_eqI ?_ | with_reducible refine g_eqS ?_ | with_reducible refine g_neI ?_ | with_reducible refine g_neS ?_
  | with_reducible refine g_ltI ?_ | with_reducible refine g_leI ?_ | with_reducible refine g_gtI ?_ | with_reducible refine g_geI ?_
  | with_reducible refine g_ret ?_ | with_reducible refine g_next ?_ | with_reducible refine g_call ?_ | with_reducible refine g_drop ?_ | with_reducible refine g_sub ?_
  | with_reducible refine g_and ?_ | with_reducible refine g_or ?_ | with_reducible refine g_not ?_ | with_reducible refine g_tru ?_ | with_reducible refine g_trubl ?_ | with_reducible refine g_truint ?_ | with_reducible refine g_ifx ?_
  | with_reducible refine g_abs ?_ | with_reducible refine g_max2 ?_ | with_reducible refine g_min2 ?_ | with_reducible refine g_intI ?_ | with_reducible refine g_intB ?_
  | with_reducible refine g_tup ?_ | with_reducible refine g_lst ?_ | ((with_reducible refine g_len ?gl ?_); (case gl => (show _ ≤ 16777216; simp only [List.length_cons, List.length_nil]; omega))) | with_reducible refine g_dnew ?_
  | with_reducible refine g_bm ?_ | with_reducible refine g_bm0 ?_ | with_reducible refine g_m1 ?_ | with_reducible refine g_isstr ?_ | with_reducible refine g_sl ?_ | with_reducible refine g_nopart ?_ | with_reducible refine g_part ?_ | with_reducible refine g_ispart ?_
  | with_reducible refine g_un ?_ | with_reducible refine g_neg ?_ | with_reducible refine g_andT ?_ | with_reducible refine g_orT ?_ | with_reducible refine g_notT ?_ | with_reducible refine g_rev ?_ | with_reducible refine g_par ?_ | with_reducible refine g_lc ?_ | with_reducible refine g_for ?_ | with_reducible refine g_rng1 ?_ | with_reducible refine g_yes ?_ | with_reducible refine g_isS ?_ | with_reducible refine g_disp ?_ | with_reducible refine g_pcons ?_ | with_reducible refine g_pnil ?_ | with_reducible refine g_get2 ?_)
local macro_rules | `(tactic| walk_at "go") => `(tactic| repeat walk_at "g1")

def topS (i : Nat) : Stmt := PySem.Challenge.pw_lazywebs_k17_needs_one_by_one.main.body.getD i (.Pass ⟨0, 0, 0, 0⟩)
/-! ### the head -/
def dd (x : Str) (i : Nat) : He.DefD := ⟨(x, none), x, x, defArgs (topS i), defBody (topS i), defScope (topS i), [], []⟩
def dm (c m q : Str) (i j : Nat) : He.DefD := ⟨(c, some m), m, q, defArgs (inClass (topS i) j), defBody (inClass (topS i) j), defScope (inClass (topS i) j), [], []⟩
def hfn : List He.DefD := [dd "is_small" 3, dd "within" 4, dd "in_order" 5, dd "many_in" 6, dd "bodies" 8, dd "number_of" 9, dd "things_of" 10, dd "wants" 11, dd "body_place" 12, dd "reckoned" 14, dd "passed" 16, dd "called" 17, dd "of_fun" 18, dd "of_give" 19, dd "of_numbers" 20, dd "of_when" 21, dd "of_side" 22, dd "behind" 23, dd "inner_places" 25, dd "with_rows" 26, dd "grounds" 27, dd "ground_of" 28, dm "Nodes" "__init__" "Nodes.__init__" 29 0, dm "Nodes" "part" "Nodes.part" 29 1, dm "Nodes" "inner" "Nodes.inner" 29 2, dm "Nodes" "door" "Nodes.door" 29 3, dm "Nodes" "node" "Nodes.node" 29 4, dm "Nodes" "seen" "Nodes.seen" 29 6, dm "Nodes" "told" "Nodes.told" 29 7, dd "_law_pen" 31, dd "_law_draw" 32, dd "_law_names" 33, dd "_law_number" 34, dd "_law_leaf" 35, dd "_law_fits" 36, dd "_law_call" 37, dd "_law_let" 38, dd "_law_part" 39, dd "_law_loop" 40, dd "_law_body" 41, dd "_law_program" 42, dd "_law_ground" 43, dd "_law_inner" 44, dd "_law_many" 45, dd "_law_grounds" 46, dd "_law_node" 47, dd "_law_seen" 48, dd "_law_passed" 49, dd "_law_two" 50, dd "_law_given" 51, dd "_law_behind" 52, dd "_law_worth" 53, dd "_law_wish" 54, dd "_law_same" 55, dd "law" 56]
def hfa : List He.Fa := [.glo "is_small", .glo "within", .glo "in_order", .glo "many_in", .glo "bodies", .glo "number_of", .glo "things_of", .glo "wants", .glo "body_place", .glo "reckoned", .glo "passed", .glo "called", .glo "of_fun", .glo "of_give", .glo "of_numbers", .glo "of_when", .glo "of_side", .glo "behind", .glo "inner_places", .glo "with_rows", .glo "grounds", .glo "ground_of", .mkr "Nodes", .meth "Nodes" "part", .meth "Nodes" "inner", .meth "Nodes" "door", .meth "Nodes" "node", .meth "Nodes" "seen", .meth "Nodes" "told", .glo "_law_pen", .glo "_law_draw", .glo "_law_names", .glo "_law_number", .glo "_law_leaf", .glo "_law_fits", .glo "_law_call", .glo "_law_let", .glo "_law_part", .glo "_law_loop", .glo "_law_body", .glo "_law_program", .glo "_law_ground", .glo "_law_inner", .glo "_law_many", .glo "_law_grounds", .glo "_law_node", .glo "_law_seen", .glo "_law_passed", .glo "_law_two", .glo "_law_given", .glo "_law_behind", .glo "_law_worth", .glo "_law_wish", .glo "_law_same", .glo "law", .cls "Nodes", .glo "Nodes", .noat "Nodes" "program", .noat "Nodes" "ground", .noat "Nodes" "kept", .noat "Nodes" "numbers", .noat "Nodes" "closed", .noat "Nodes" "doors", .free "abs", .free "list", .free "len", .free "sum", .free "int", .free "dict", .free "zip", .free "enumerate", .free "tuple", .free "max", .free "range", .free "min", .free "isinstance", .free "bool", .glo "PARTS", .glo "OPERATIONS"]
def hts : List He.Tab := [((fun K => He.ga K "PARTS"), ["give", "plus", "less", "times", "below", "when", "pair", "left", "right"])]
def hex (K : PySem.W.Frag) : Bool := He.valsB K (He.ga K "PARTS") [("give", .int 2), ("plus", .int 2), ("less", .int 2), ("times", .int 2), ("below", .int 2), ("when", .int 3), ("pair", .int 2), ("left", .int 1), ("right", .int 1)] && He.tupB K "OPERATIONS" [.str "plus", .str "less", .str "times", .str "below"]
abbrev hR : PySem.W.OpenRow := PySem.W.OpenLaw.row PySem.Challenge.rw_lazywebs_k17_needs_one_by_one
abbrev hk : PySem.W.Hook := He.hookX 5 hfa hfn hts [] hex
def ob (s : PySem.W.SharedT) : He.AlX := He.obsX 5 hfa hfn hts [] hex (HandSHeadRun.getT s)
theorem ob_eq (s : PySem.W.SharedT) : ob s = hk.obs s.abs := He.obsX_eq (HandSHeadRun.getT_eq s)
def loose0 : List Str := ["PARTS", "OPERATIONS", "is_small", "within", "in_order", "many_in", "bodies", "number_of", "things_of", "wants", "body_place", "reckoned", "passed", "called", "of_fun", "of_give", "of_numbers", "of_when", "of_side", "behind", "inner_places", "with_rows", "grounds", "ground_of", "Nodes", "_law_pen", "_law_draw", "_law_names", "_law_number", "_law_leaf"]
def loose1 : List Str := ["_law_fits", "_law_call", "_law_let", "_law_part", "_law_loop", "_law_body", "_law_program", "_law_ground", "_law_inner", "_law_many", "_law_grounds", "_law_node", "_law_seen", "_law_passed", "_law_two", "_law_given", "_law_behind", "_law_worth", "_law_wish", "_law_same"]
def hloose : List Str := loose0 ++ loose1
theorem hrunF (w : World) : HandSHeadRun.RunEq hR (PySem.W.view hR.prog [56]) hk ob 6000 hloose (w.withFollow "special-get-raises" false) := by
  intro os
  kernel_rfl
theorem hrunT (w : World) : HandSHeadRun.RunEq hR (PySem.W.view hR.prog [56]) hk ob 6000 hloose (w.withFollow "special-get-raises" true) := by
  intro os
  kernel_rfl
theorem hrun (w : World) : HandSHeadRun.RunEq hR (PySem.W.view hR.prog [56]) hk ob 6000 hloose w :=
  PySem.W.byRow2 "special-get-raises" (P := fun w => HandSHeadRun.RunEq hR (PySem.W.view hR.prog [56]) hk ob 6000 hloose w) hrunF hrunT w
/-! ### the readings of the defs -/
def t_is_small (K : PySem.W.Frag) (w : World) : TS :=
  (tRet (tOp rLtG (tCB rAbsG (tCons (tVar 0) tNil)) (tOp rPowG (tC (.int 10)) (tC (.int 60)))))
def t_within (K : PySem.W.Frag) (w : World) : TS :=
  (tSeq (tIfS (tTest (tOp (rInG K w false) (tIxG K w (tVar 0) (tC (.int 0))) (tC (.ref (He.ga K "PARTS"))))) (tRet (tCB (rListG K) (tCons (tSl (rSlG K) (tVar 0) (tPart (tC (.int 1))) tNoPart) tNil))) tNext)
  (tSeq (tIfS (tTest (tOp (rEqG K) (tIxG K w (tVar 0) (tC (.int 0))) (tC (.str "let")))) (tRet (tOp (rAddG K) (tLc (iSeq K (tIxG K w (tVar 0) (tC (.int 1)))) (gTup K 2 (gCons (gName 1) (gCons (gName 2) gNil))) tYes (tVar 2) [1, 2]) (tLstN (tCons (tIxG K w (tVar 0) (tC (.int 2))) tNil)))) tNext)
  (tRet (tLstN tNil))))
def t_in_order (K : PySem.W.Frag) (w : World) (s_within : Sp) : TS :=
  (tSeq (tAsg (tLstN tNil) (gName 1))
  (tSeq (tAsg (tLstN (tCons (tVar 0) tNil)) (gName 2))
  (tSeq (tWhile (tTest (tOp (rNeG K) (tVar 2) (tLstN tNil))) (tSeq (tAsg (tBM0 K "list" rPopG (tVar 2)) (gName 3))
  (tSeq (tDrop (tBM K "list" rAppendG (tVar 1) (tCons (tVar 3) tNil)))
  (tDrop (tBM K "list" rExtendG (tVar 2) (tCons (tRevG K (tCall s_within [] E0 (tCons (tVar 3) tNil))) tNil))))))
  (tRet (tVar 1)))))
def t_many_in (K : PySem.W.Frag) (w : World) (s_in_order : Sp) : TS :=
  (tRet (tCB (rLenG K) (tCons (tCall s_in_order [] E0 (tCons (tVar 0) tNil)) tNil)))
def t_bodies (K : PySem.W.Frag) (w : World) : TS :=
  (tRet (tOp (rAddG K) (tLc (iSeq K (tIxG K w (tVar 0) (tC (.int 0)))) (gTup K 3 (gCons (gName 1) (gCons (gName 2) (gCons (gName 3) gNil)))) tYes (tVar 3) [1, 2, 3]) (tLstN (tCons (tIxG K w (tVar 0) (tC (.int 1))) tNil))))
def t_number_of (K : PySem.W.Frag) (w : World) : TS :=
  (tSeq (tAsg (tLc (iSeq K (tIxG K w (tVar 0) (tC (.int 0)))) (gTup K 3 (gCons (gName 3) (gCons (gName 4) (gCons (gName 5) gNil)))) tYes (tVar 3) [3, 4, 5]) (gName 2))
  (tRet (tIf (tTest (tOp (rInG K w false) (tVar 1) (tVar 2))) (tBM K "list" (rIndex K) (tVar 2) (tCons (tVar 1) tNil)) (tCB (rLenG K) (tCons (tVar 2) tNil)))))
def t_things_of (K : PySem.W.Frag) (w : World) (s_number_of : Sp) : TS :=
  (tSeq (tAsg (tCall s_number_of [] E0 (tCons (tVar 0) (tCons (tVar 1) tNil))) (gName 2))
  (tRet (tIf (tTest (tOp (rEqG K) (tVar 2) (tCB (rLenG K) (tCons (tIxG K w (tVar 0) (tC (.int 0))) tNil)))) (tTupN tNil) (tIxG K w (tIxG K w (tIxG K w (tVar 0) (tC (.int 0))) (tVar 2)) (tC (.int 1))))))
def t_wants (K : PySem.W.Frag) (w : World) (s_things_of : Sp) : TS :=
  (tRet (tCB (rLenG K) (tCons (tCall s_things_of [] E0 (tCons (tVar 0) (tCons (tVar 1) tNil))) tNil)))
def t_body_place (K : PySem.W.Frag) (w : World) (s_bodies : Sp) (s_number_of : Sp) (s_many_in : Sp) : TS :=
  (tRet (tCB (rSum K) (tCons (tLc (iSeq K (tSl (rSlG K) (tCall s_bodies [] E0 (tCons (tVar 0) tNil)) tNoPart (tPart (tCall s_number_of [] E0 (tCons (tVar 0) (tCons (tVar 1) tNil)))))) (gName 2) tYes (tCall s_many_in [] E0 (tCons (tVar 2) tNil)) [2]) tNil)))
def t_reckoned (K : PySem.W.Frag) (w : World) : TS :=
  (tSeq (tIfS (tTest (tOp (rEqG K) (tVar 0) (tC (.str "plus")))) (tRet (tOp (rAddG K) (tVar 1) (tVar 2))) tNext)
  (tSeq (tIfS (tTest (tOp (rEqG K) (tVar 0) (tC (.str "less")))) (tRet (tOp rSubG (tVar 1) (tVar 2))) tNext)
  (tSeq (tIfS (tTest (tOp (rEqG K) (tVar 0) (tC (.str "times")))) (tRet (tOp rMulG (tVar 1) (tVar 2))) tNext)
  (tRet (tCB rIntG (tCons (tOp rLtG (tVar 1) (tVar 2)) tNil))))))
def t_passed (K : PySem.W.Frag) (w : World) : TS :=
  (tSeq (tIfS (tTest (tOp (rEqG K) (tVar 1) (tLstN tNil))) (tRet (tTupN (tCons (tC (.str "need")) (tCons (tVar 0) tNil)))) tNext)
  (tRet (tTupN (tCons (tC (.str "worth")) (tCons (tIxG K w (tVar 1) (tC (.int 0))) tNil)))))
def t_called (K : PySem.W.Frag) (w : World) (s_Nodes_door : Sp) (s_Nodes_node : Sp) : TS :=
  (tSeq (tIfS (tTest (tOp (rEqG K) (tVar 3) (tLstN tNil))) (tRet (tTupN (tCons (tC (.str "call")) (tCons (tMeth (He.ga K "Nodes") "node" s_Nodes_node [] E0 (tVar 0) (tCons (tIxG K w (tMeth (He.ga K "Nodes") "door" s_Nodes_door [] E0 (tVar 0) (tCons (tVar 1) tNil)) (tC (.int 0))) (tCons (tVar 2) tNil))) tNil)))) tNext)
  (tRet (tTupN (tCons (tC (.str "worth")) (tCons (tIxG K w (tVar 3) (tC (.int 0))) tNil)))))
def t_of_fun (K : PySem.W.Frag) (w : World) (s_Nodes_door : Sp) (s_called : Sp) : TS :=
  (tSeq (tIfS (tTest (tOp rGtG (tIxG K w (tMeth (He.ga K "Nodes") "door" s_Nodes_door [] E0 (tVar 0) (tCons (tVar 1) tNil)) (tC (.int 1))) (tC (.int 0)))) (tRet (tTupN (tCons (tC (.str "worth")) (tCons (tTupN (tCons (tC (.str "function")) (tCons (tVar 1) (tCons (tTupN tNil) tNil)))) tNil)))) tNext)
  (tRet (tCall s_called [] E0 (tCons (tVar 0) (tCons (tVar 1) (tCons (tTupN tNil) (tCons (tVar 2) tNil)))))))
def t_of_give (K : PySem.W.Frag) (w : World) (s_Nodes_seen : Sp) (s_Nodes_door : Sp) (s_called : Sp) : TS :=
  (tSeq (tIfS (tTest (tOp (rEqG K) (tVar 3) (tLstN tNil))) (tRet (tTupN (tCons (tC (.str "need")) (tCons (tMeth (He.ga K "Nodes") "seen" s_Nodes_seen [] E0 (tVar 0) (tCons (tIxG K w (tVar 1) (tC (.int 0))) (tCons (tVar 2) tNil))) tNil)))) tNext)
  (tSeq (tIfS (tTest (tOp (rNeG K) (tIxG K w (tIxG K w (tVar 3) (tC (.int 0))) (tC (.int 0))) (tC (.str "function")))) (tRet (tTupN (tCons (tC (.str "fault")) (tCons (tC (.str "function")) tNil)))) tNext)
  (tSeq (tAsg (tIxG K w (tVar 3) (tC (.int 0))) (gTup K 3 (gCons (gName 4) (gCons (gName 5) (gCons (gName 6) gNil)))))
  (tSeq (tAsg (tOp (rAddG K) (tVar 6) (tTupN (tCons (tMeth (He.ga K "Nodes") "seen" s_Nodes_seen [] E0 (tVar 0) (tCons (tIxG K w (tVar 1) (tC (.int 1))) (tCons (tVar 2) tNil))) tNil))) (gName 6))
  (tSeq (tIfS (tTest (tOp rLtG (tCB (rLenG K) (tCons (tVar 6) tNil)) (tIxG K w (tMeth (He.ga K "Nodes") "door" s_Nodes_door [] E0 (tVar 0) (tCons (tVar 5) tNil)) (tC (.int 1))))) (tRet (tTupN (tCons (tC (.str "worth")) (tCons (tTupN (tCons (tC (.str "function")) (tCons (tVar 5) (tCons (tVar 6) tNil)))) tNil)))) tNext)
  (tRet (tCall s_called [] E0 (tCons (tVar 0) (tCons (tVar 5) (tCons (tVar 6) (tCons (tSl (rSlG K) (tVar 3) (tPart (tC (.int 1))) tNoPart) tNil)))))))))))
def t_of_numbers (K : PySem.W.Frag) (w : World) (s_Nodes_seen : Sp) (s_reckoned : Sp) (s_is_small : Sp) : TS :=
  (tSeq (tIfS (tAnd (tTest (tOp rGtG (tCB (rLenG K) (tCons (tVar 4) tNil)) (tC (.int 0)))) (tTest (tOp (rNeG K) (tIxG K w (tIxG K w (tVar 4) (tUn (rU fun i => .int (-i)) (tC (.int 1)))) (tC (.int 0))) (tC (.str "number"))))) (tRet (tTupN (tCons (tC (.str "fault")) (tCons (tC (.str "number")) tNil)))) tNext)
  (tSeq (tIfS (tTest (tOp rLtG (tCB (rLenG K) (tCons (tVar 4) tNil)) (tC (.int 2)))) (tRet (tTupN (tCons (tC (.str "need")) (tCons (tMeth (He.ga K "Nodes") "seen" s_Nodes_seen [] E0 (tVar 1) (tCons (tIxG K w (tVar 2) (tCB (rLenG K) (tCons (tVar 4) tNil))) (tCons (tVar 3) tNil))) tNil)))) tNext)
  (tSeq (tAsg (tCall s_reckoned [] E0 (tCons (tVar 0) (tCons (tIxG K w (tIxG K w (tVar 4) (tC (.int 0))) (tC (.int 1))) (tCons (tIxG K w (tIxG K w (tVar 4) (tC (.int 1))) (tC (.int 1))) tNil)))) (gName 5))
  (tSeq (tIfS (tNot (tTru K (tCall s_is_small [] E0 (tCons (tVar 5) tNil)))) (tRet (tTupN (tCons (tC (.str "fault")) (tCons (tC (.str "great")) tNil)))) tNext)
  (tRet (tTupN (tCons (tC (.str "worth")) (tCons (tTupN (tCons (tC (.str "number")) (tCons (tVar 5) tNil))) tNil))))))))
def t_of_when (K : PySem.W.Frag) (w : World) (s_Nodes_seen : Sp) (s_passed : Sp) : TS :=
  (tSeq (tIfS (tTest (tOp (rEqG K) (tVar 3) (tLstN tNil))) (tRet (tTupN (tCons (tC (.str "need")) (tCons (tMeth (He.ga K "Nodes") "seen" s_Nodes_seen [] E0 (tVar 0) (tCons (tIxG K w (tVar 1) (tC (.int 0))) (tCons (tVar 2) tNil))) tNil)))) tNext)
  (tSeq (tIfS (tTest (tOp (rNeG K) (tIxG K w (tIxG K w (tVar 3) (tC (.int 0))) (tC (.int 0))) (tC (.str "number")))) (tRet (tTupN (tCons (tC (.str "fault")) (tCons (tC (.str "number")) tNil)))) tNext)
  (tSeq (tAsg (tIf (tTest (tOp (rNeG K) (tIxG K w (tIxG K w (tVar 3) (tC (.int 0))) (tC (.int 1))) (tC (.int 0)))) (tIxG K w (tVar 1) (tC (.int 1))) (tIxG K w (tVar 1) (tC (.int 2)))) (gName 4))
  (tRet (tCall s_passed [] E0 (tCons (tMeth (He.ga K "Nodes") "seen" s_Nodes_seen [] E0 (tVar 0) (tCons (tVar 4) (tCons (tVar 2) tNil))) (tCons (tSl (rSlG K) (tVar 3) (tPart (tC (.int 1))) tNoPart) tNil)))))))
def t_of_side (K : PySem.W.Frag) (w : World) (s_Nodes_seen : Sp) (s_passed : Sp) : TS :=
  (tSeq (tIfS (tTest (tOp (rEqG K) (tVar 4) (tLstN tNil))) (tRet (tTupN (tCons (tC (.str "need")) (tCons (tMeth (He.ga K "Nodes") "seen" s_Nodes_seen [] E0 (tVar 1) (tCons (tIxG K w (tVar 2) (tC (.int 0))) (tCons (tVar 3) tNil))) tNil)))) tNext)
  (tSeq (tIfS (tTest (tOp (rNeG K) (tIxG K w (tIxG K w (tVar 4) (tC (.int 0))) (tC (.int 0))) (tC (.str "pair")))) (tRet (tTupN (tCons (tC (.str "fault")) (tCons (tC (.str "pair")) tNil)))) tNext)
  (tRet (tCall s_passed [] E0 (tCons (tIxG K w (tIxG K w (tVar 4) (tC (.int 0))) (tIf (tTest (tOp (rEqG K) (tVar 0) (tC (.str "left")))) (tC (.int 1)) (tC (.int 2)))) (tCons (tSl (rSlG K) (tVar 4) (tPart (tC (.int 1))) tNoPart) tNil))))))
def t_behind (K : PySem.W.Frag) (w : World) (s_Nodes_told : Sp) (s_Nodes_part : Sp) (s_Nodes_inner : Sp) (s_Nodes_seen : Sp) (s_passed : Sp) (s_of_fun : Sp) (s_of_give : Sp) (s_of_numbers : Sp) (s_of_when : Sp) (s_of_side : Sp) : TS :=
  (tSeq (tAsg (tMeth (He.ga K "Nodes") "told" s_Nodes_told [] E0 (tVar 0) (tCons (tVar 1) tNil)) (gTup K 2 (gCons (gName 3) (gCons (gName 4) gNil))))
  (tSeq (tAsg (tMeth (He.ga K "Nodes") "part" s_Nodes_part [] E0 (tVar 0) (tCons (tVar 3) tNil)) (gName 5))
  (tSeq (tAsg (tMeth (He.ga K "Nodes") "inner" s_Nodes_inner [] E0 (tVar 0) (tCons (tVar 3) tNil)) (gName 6))
  (tSeq (tIfS (tTest (tOp (rEqG K) (tIxG K w (tVar 5) (tC (.int 0))) (tC (.str "number")))) (tRet (tTupN (tCons (tC (.str "worth")) (tCons (tTupN (tCons (tC (.str "number")) (tCons (tIxG K w (tVar 5) (tC (.int 1))) tNil))) tNil)))) tNext)
  (tSeq (tIfS (tTest (tOp (rEqG K) (tIxG K w (tVar 5) (tC (.int 0))) (tC (.str "pair")))) (tRet (tTupN (tCons (tC (.str "worth")) (tCons (tTupN (tCons (tC (.str "pair")) (tCons (tMeth (He.ga K "Nodes") "seen" s_Nodes_seen [] E0 (tVar 0) (tCons (tIxG K w (tVar 6) (tC (.int 0))) (tCons (tVar 4) tNil))) (tCons (tMeth (He.ga K "Nodes") "seen" s_Nodes_seen [] E0 (tVar 0) (tCons (tIxG K w (tVar 6) (tC (.int 1))) (tCons (tVar 4) tNil))) tNil)))) tNil)))) tNext)
  (tSeq (tIfS (tTest (tOp (rEqG K) (tIxG K w (tVar 5) (tC (.int 0))) (tC (.str "name")))) (tRet (tCall s_passed [] E0 (tCons (tMeth (He.ga K "Nodes") "seen" s_Nodes_seen [] E0 (tVar 0) (tCons (tVar 3) (tCons (tVar 4) tNil))) (tCons (tVar 2) tNil)))) tNext)
  (tSeq (tIfS (tTest (tOp (rEqG K) (tIxG K w (tVar 5) (tC (.int 0))) (tC (.str "let")))) (tRet (tCall s_passed [] E0 (tCons (tMeth (He.ga K "Nodes") "seen" s_Nodes_seen [] E0 (tVar 0) (tCons (tIxG K w (tVar 6) (tUn (rU fun i => .int (-i)) (tC (.int 1)))) (tCons (tVar 4) tNil))) (tCons (tVar 2) tNil)))) tNext)
  (tSeq (tIfS (tTest (tOp (rEqG K) (tIxG K w (tVar 5) (tC (.int 0))) (tC (.str "fun")))) (tRet (tCall s_of_fun [] E0 (tCons (tVar 0) (tCons (tIxG K w (tVar 5) (tC (.int 1))) (tCons (tVar 2) tNil))))) tNext)
  (tSeq (tIfS (tTest (tOp (rEqG K) (tIxG K w (tVar 5) (tC (.int 0))) (tC (.str "give")))) (tRet (tCall s_of_give [] E0 (tCons (tVar 0) (tCons (tVar 6) (tCons (tVar 4) (tCons (tVar 2) tNil)))))) tNext)
  (tSeq (tIfS (tTest (tOp (rInG K w false) (tIxG K w (tVar 5) (tC (.int 0))) (tC (.ref (He.ga K "OPERATIONS"))))) (tRet (tCall s_of_numbers [] E0 (tCons (tIxG K w (tVar 5) (tC (.int 0))) (tCons (tVar 0) (tCons (tVar 6) (tCons (tVar 4) (tCons (tVar 2) tNil))))))) tNext)
  (tSeq (tIfS (tTest (tOp (rEqG K) (tIxG K w (tVar 5) (tC (.int 0))) (tC (.str "when")))) (tRet (tCall s_of_when [] E0 (tCons (tVar 0) (tCons (tVar 6) (tCons (tVar 4) (tCons (tVar 2) tNil)))))) tNext)
  (tRet (tCall s_of_side [] E0 (tCons (tIxG K w (tVar 5) (tC (.int 0))) (tCons (tVar 0) (tCons (tVar 6) (tCons (tVar 4) (tCons (tVar 2) tNil))))))))))))))))))
def t_inner_places (K : PySem.W.Frag) (w : World) (s_within : Sp) (s_many_in : Sp) : TS :=
  (tSeq (tAsg (tLstN tNil) (gName 2))
  (tSeq (tAsg (tOp (rAddG K) (tVar 1) (tC (.int 1))) (gName 3))
  (tSeq (tFor (iSeq K (tCall s_within [] E0 (tCons (tVar 0) tNil))) (gName 4) (tSeq (tDrop (tBM K "list" rAppendG (tVar 2) (tCons (tVar 3) tNil)))
  (tAsg (tOp (rAddG K) (tVar 3) (tCall s_many_in [] E0 (tCons (tVar 4) tNil))) (gName 3))))
  (tRet (tVar 2)))))
def t_with_rows (K : PySem.W.Frag) (w : World) : TS :=
  (tSeq (tAsg (tCB rDictG (tCons (tVar 2) tNil)) (gName 3))
  (tSeq (tFor (iZipM K (tCons (tIxG K w (tVar 0) (tC (.int 1))) (tCons (tVar 1) tNil))) (gTup K 2 (gCons (gName 4) (gCons (gName 5) gNil))) (tAsg (tTupN (tCons (tC (.str "row")) (tCons (tVar 5) tNil))) (gSub (tVar 3) (tIxG K w (tVar 4) (tC (.int 0))) rSetG)))
  (tRet (tVar 3))))
def t_grounds (K : PySem.W.Frag) (w : World) (s_inner_places : Sp) (s_with_rows : Sp) (s_within : Sp) (s_grounds : Sp) : TS :=
  (tSeq (tAsg (tCall s_inner_places [] E0 (tCons (tVar 0) (tCons (tVar 1) tNil))) (gName 3))
  (tSeq (tIfS (tTest (tOp (rEqG K) (tIxG K w (tVar 0) (tC (.int 0))) (tC (.str "let")))) (tAsg (tCall s_with_rows [] E0 (tCons (tVar 0) (tCons (tVar 3) (tCons (tVar 2) tNil)))) (gName 2)) tNext)
  (tSeq (tAsg (tIf (tTest (tOp (rEqG K) (tIxG K w (tVar 0) (tC (.int 0))) (tC (.str "name")))) (tIxG K w (tVar 2) (tIxG K w (tVar 0) (tC (.int 1)))) (tC .non)) (gName 4))
  (tSeq (tAsg (tLstN (tCons (tTupN (tCons (tVar 0) (tCons (tVar 3) (tCons (tVar 4) tNil)))) tNil)) (gName 5))
  (tSeq (tFor (iZipM K (tCons (tCall s_within [] E0 (tCons (tVar 0) tNil)) (tCons (tVar 3) tNil))) (gTup K 2 (gCons (gName 6) (gCons (gName 7) gNil))) (tDrop (tBM K "list" rExtendG (tVar 5) (tCons (tCall s_grounds [] E0 (tCons (tVar 6) (tCons (tVar 7) (tCons (tVar 2) tNil)))) tNil))))
  (tRet (tVar 5)))))))
def t_ground_of (K : PySem.W.Frag) (w : World) (s_grounds : Sp) : TS :=
  (tSeq (tAsg (tLstN tNil) (gName 1))
  (tSeq (tFor (iSeq K (tOp (rAddG K) (tLc (iSeq K (tIxG K w (tVar 0) (tC (.int 0)))) (gTup K 3 (gCons (gName 4) (gCons (gName 2) (gCons (gName 3) gNil)))) tYes (tTupN (tCons (tVar 2) (tCons (tVar 3) tNil))) [4, 2, 3]) (tLstN (tCons (tTupN (tCons (tTupN tNil) (tCons (tIxG K w (tVar 0) (tC (.int 1))) tNil))) tNil)))) (gTup K 2 (gCons (gName 2) (gCons (gName 3) gNil))) (tSeq (tAsg (tDNewKN) (gName 5))
  (tSeq (tFor (iEnumT K (tCons (tVar 2) tNil)) (gTup K 2 (gCons (gName 6) (gCons (gName 4) gNil))) (tAsg (tTupN (tCons (tC (.str "thing")) (tCons (tVar 6) tNil))) (gSub (tVar 5) (tVar 4) rSetG)))
  (tDrop (tBM K "list" rExtendG (tVar 1) (tCons (tCall s_grounds [] E0 (tCons (tVar 3) (tCons (tCB (rLenG K) (tCons (tVar 1) tNil)) (tCons (tVar 5) tNil)))) tNil))))))
  (tRet (tVar 1))))
def t_Nodes___init__ (K : PySem.W.Frag) (w : World) (s_ground_of : Sp) (s_wants : Sp) (s_body_place : Sp) : TS :=
  (tSeq (sFld K (tVar 0) (tVar 1) "program")
  (tSeq (sFld K (tVar 0) (tCall s_ground_of [] E0 (tCons (tVar 1) tNil)) "ground")
  (tSeq (sFld K (tVar 0) (tLstN tNil) "kept")
  (tSeq (sFld K (tVar 0) (tDNewKN) "numbers")
  (tSeq (sFld K (tVar 0) (tC (.bl false)) "closed")
  (tSeq (sFld K (tVar 0) (tDNewKN) "doors")
  (tFor (iSeq K (tOp (rAddG K) (tLc (iSeq K (tIxG K w (tVar 1) (tC (.int 0)))) (gTup K 3 (gCons (gName 3) (gCons (gName 4) (gCons (gName 5) gNil)))) tYes (tVar 3) [3, 4, 5]) (tLstN (tCons (tC (.str "")) tNil)))) (gName 2) (tAsg (tTupN (tCons (tCall s_body_place [] E0 (tCons (tVar 1) (tCons (tVar 2) tNil))) (tCons (tCall s_wants [] E0 (tCons (tVar 1) (tCons (tVar 2) tNil))) tNil))) (gSub (tFld K (tVar 0) "doors") (tVar 2) rSetG)))))))))
def t_Nodes_part (K : PySem.W.Frag) (w : World) : TS :=
  (tRet (tIxG K w (tIxG K w (tFld K (tVar 0) "ground") (tVar 1)) (tC (.int 0))))
def t_Nodes_inner (K : PySem.W.Frag) (w : World) : TS :=
  (tRet (tCB (rListG K) (tCons (tIxG K w (tIxG K w (tFld K (tVar 0) "ground") (tVar 1)) (tC (.int 1))) tNil)))
def t_Nodes_door (K : PySem.W.Frag) (w : World) : TS :=
  (tRet (tDGet2 (tFld K (tVar 0) "doors") (tVar 1) (tIxG K w (tFld K (tVar 0) "doors") (tC (.str "")))))
def t_Nodes_node (K : PySem.W.Frag) (w : World) : TS :=
  (tSeq (tAsg (tTupN (tCons (tVar 1) (tCons (tCB (rTupleG K) (tCons (tVar 2) tNil)) tNil))) (gName 3))
  (tSeq (tIfS (tAnd (tTest (tOp (rInGN K w true) (tVar 3) (tFld K (tVar 0) "numbers"))) (tTru K (tFld K (tVar 0) "closed"))) (tRet (tUn (rU fun i => .int (-i)) (tC (.int 1)))) tNext)
  (tSeq (tIfS (tTest (tOp (rInGN K w true) (tVar 3) (tFld K (tVar 0) "numbers"))) (tSeq (tAsg (tCB (rLenG K) (tCons (tFld K (tVar 0) "kept") tNil)) (gSub (tFld K (tVar 0) "numbers") (tVar 3) (rSetGN w)))
  (tDrop (tBM K "list" rAppendG (tFld K (tVar 0) "kept") (tCons (tVar 3) tNil)))) tNext)
  (tRet (tIxN K w (tFld K (tVar 0) "numbers") (tVar 3))))))
def t_Nodes_seen (K : PySem.W.Frag) (w : World) (s_Nodes_node : Sp) : TS :=
  (tSeq (tAsg (tIxG K w (tIxG K w (tFld K (tVar 0) "ground") (tVar 1)) (tC (.int 2))) (gName 3))
  (tSeq (tIfS (tTest (tOp (rIsG false) (tVar 3) (tC .non))) (tRet (tMeth (He.ga K "Nodes") "node" s_Nodes_node [] E0 (tVar 0) (tCons (tVar 1) (tCons (tVar 2) tNil)))) tNext)
  (tSeq (tIfS (tTest (tOp (rEqG K) (tIxG K w (tVar 3) (tC (.int 0))) (tC (.str "thing")))) (tRet (tIxG K w (tVar 2) (tIxG K w (tVar 3) (tC (.int 1))))) tNext)
  (tRet (tMeth (He.ga K "Nodes") "node" s_Nodes_node [] E0 (tVar 0) (tCons (tIxG K w (tVar 3) (tC (.int 1))) (tCons (tVar 2) tNil)))))))
def t_Nodes_told (K : PySem.W.Frag) (w : World) : TS :=
  (tRet (tIxG K w (tFld K (tVar 0) "kept") (tVar 1)))
def t_law_pen (K : PySem.W.Frag) (w : World) : TS :=
  (tRet (tLstN (tCons (tCB (rListG K) (tCons (tSl (rSlG K) (tVar 0) tNoPart (tPart (tC (.int 63)))) tNil)) (tCons (tC (.int 0)) (tCons (tC (.int 0)) tNil)))))
def t_law_draw (K : PySem.W.Frag) (w : World) : TS :=
  (tSeq (tIfS (tTest (tOp rGtG (tIxG K w (tVar 0) (tC (.int 2))) (tC (.int 0)))) (tSeq (tAsg (tOp rModG (tIxG K w (tVar 0) (tC (.int 2))) (tVar 1)) (gName 2))
  (tSeq (tAsg (tOp rDivG (tIxG K w (tVar 0) (tC (.int 2))) (tVar 1)) (gSub (tVar 0) (tC (.int 2)) rSetG))
  (tRet (tVar 2)))) tNext)
  (tSeq (tAsg (tIxG K w (tVar 0) (tC (.int 1))) (gName 3))
  (tSeq (tAsg (tOp (rAddG K) (tVar 3) (tC (.int 1))) (gSub (tVar 0) (tC (.int 1)) rSetG))
  (tSeq (tAsg (tIxG K w (tOp (rAddG K) (tIxG K w (tVar 0) (tC (.int 0))) (tLstN (tCons (tC (.int 7)) tNil))) (tOp rModG (tVar 3) (tCB rMax2 (tCons (tC (.int 1)) (tCons (tCB (rLenG K) (tCons (tIxG K w (tVar 0) (tC (.int 0))) tNil)) tNil))))) (gName 4))
  (tSeq (tIfS (tAnd (tTest (tOp rLtG (tVar 3) (tCB (rLenG K) (tCons (tIxG K w (tVar 0) (tC (.int 0))) tNil)))) (tTest (tOp rGeG (tCB rAbsG (tCons (tVar 4) tNil)) (tOp rPowG (tC (.int 10)) (tC (.int 18)))))) (tSeq (tAsg (tOp rDivG (tCB rAbsG (tCons (tVar 4) tNil)) (tVar 1)) (gSub (tVar 0) (tC (.int 2)) rSetG))
  (tRet (tOp rModG (tCB rAbsG (tCons (tVar 4) tNil)) (tVar 1)))) tNext)
  (tSeq (tAsg (tIxG K w (tLstN (tCons (tC (.int 2147483647)) (tCons (tC (.int 2147483629)) (tCons (tC (.int 2147483587)) (tCons (tC (.int 2147483579)) (tCons (tC (.int 2147483563)) (tCons (tC (.int 2147483549)) (tCons (tC (.int 2147483543)) tNil)))))))) (tOp rModG (tVar 3) (tC (.int 7)))) (gName 5))
  (tSeq (tAsg (tOp rModG (tOp rMulG (tOp (rAddG K) (tOp (rAddG K) (tOp rModG (tVar 4) (tC (.int 2147483497))) (tOp rMulG (tC (.int 69621)) (tVar 3))) (tC (.int 13))) (tC (.int 48271))) (tVar 5)) (gName 6))
  (tSeq (tAsg (tOp rModG (tOp (rAddG K) (tOp (rAddG K) (tOp rMulG (tVar 6) (tVar 6)) (tOp rMulG (tC (.int 40692)) (tVar 6))) (tVar 3)) (tC (.int 2147483489))) (gName 6))
  (tSeq (tAsg (tOp rModG (tOp rMulG (tVar 6) (tC (.int 16807))) (tC (.int 2147483477))) (gName 6))
  (tSeq (tIfS (tTest (tOp rGtG (tVar 1) (tOp rPowG (tC (.int 10)) (tC (.int 7))))) (tAsg (tOp rPowG (tVar 6) (tC (.int 8))) (gName 6)) tNext)
  (tRet (tOp rModG (tOp rDivG (tVar 6) (tC (.int 32))) (tVar 1)))))))))))))
def t_law_names (K : PySem.W.Frag) (w : World) (s_law_draw : Sp) : TS :=
  (tSeq (tAsg (tC (.str "abcdefghijklmnopqrstuvwxyz")) (gName 2))
  (tSeq (tAsg (tM1 (rJoinG K) (tC (.str "")) (tLc (iRng1 (tCons (tOp (rAddG K) (tC (.int 1)) (tCall s_law_draw [] E0 (tCons (tVar 0) (tCons (tC (.int 8)) tNil)))) tNil)) (gName 4) tYes (tIxG K w (tVar 2) (tCall s_law_draw [] E0 (tCons (tVar 0) (tCons (tC (.int 26)) tNil)))) [4])) (gName 3))
  (tSeq (tAsg (tCall s_law_draw [] E0 (tCons (tVar 0) (tCons (tCB (rLenG K) (tCons (tVar 3) tNil)) tNil))) (gName 5))
  (tSeq (tAsg (tCall s_law_draw [] E0 (tCons (tVar 0) (tCons (tC (.int 26)) tNil))) (gName 6))
  (tSeq (tAsg (tIxG K w (tLstN (tCons (tC (.int 1)) (tCons (tC (.int 3)) (tCons (tC (.int 5)) (tCons (tC (.int 7)) (tCons (tC (.int 9)) (tCons (tC (.int 11)) tNil))))))) (tCall s_law_draw [] E0 (tCons (tVar 0) (tCons (tC (.int 6)) tNil)))) (gName 7))
  (tRet (tLc (iRng1 (tCons (tVar 1) tNil)) (gName 4) tYes (tOp (rAddG K) (tOp (rAddG K) (tSl (rSlG K) (tVar 3) tNoPart (tPart (tVar 5))) (tIxG K w (tVar 2) (tOp rModG (tOp (rAddG K) (tVar 6) (tOp rMulG (tVar 7) (tVar 4))) (tC (.int 26))))) (tSl (rSlG K) (tVar 3) (tPart (tOp (rAddG K) (tVar 5) (tC (.int 1)))) tNoPart)) [4])))))))
def t_law_number (K : PySem.W.Frag) (w : World) (s_law_draw : Sp) : TS :=
  (tSeq (tAsg (tCall s_law_draw [] E0 (tCons (tVar 0) (tCons (tC (.int 9)) tNil))) (gName 1))
  (tSeq (tIfS (tTest (tOp (rEqG K) (tVar 1) (tC (.int 8)))) (tRet (tOp (rAddG K) (tOp rSubG (tCall s_law_draw [] E0 (tCons (tVar 0) (tCons (tOp rSubG (tOp rMulG (tC (.int 2)) (tOp rPowG (tC (.int 10)) (tC (.int 60)))) (tC (.int 1))) tNil))) (tOp rPowG (tC (.int 10)) (tC (.int 60)))) (tC (.int 1)))) tNext)
  (tSeq (tIfS (tTest (tOp (rEqG K) (tVar 1) (tC (.int 7)))) (tRet (tOp rSubG (tCall s_law_draw [] E0 (tCons (tVar 0) (tCons (tOp rMulG (tC (.int 2)) (tOp rPowG (tC (.int 10)) (tC (.int 31)))) tNil))) (tOp rPowG (tC (.int 10)) (tC (.int 31))))) tNext)
  (tRet (tOp rSubG (tCall s_law_draw [] E0 (tCons (tVar 0) (tCons (tC (.int 9)) tNil))) (tIxG K w (tLstN (tCons (tC (.int 0)) (tCons (tC (.int 0)) (tCons (tC (.int 0)) (tCons (tC (.int 1)) (tCons (tC (.int 2)) (tCons (tC (.int 4)) (tCons (tC (.int 0)) tNil)))))))) (tVar 1)))))))
def t_law_leaf (K : PySem.W.Frag) (w : World) (s_law_draw : Sp) (s_law_number : Sp) : TS :=
  (tSeq (tAsg (tCall s_law_draw [] E0 (tCons (tVar 0) (tCons (tC (.int 8)) tNil))) (gName 4))
  (tSeq (tIfS (tAnd (tTest (tOp (rNeG K) (tVar 2) (tLstN tNil))) (tTest (tOp rGtG (tVar 4) (tC (.int 2))))) (tRet (tTupN (tCons (tC (.str "name")) (tCons (tIxG K w (tVar 2) (tCall s_law_draw [] E0 (tCons (tVar 0) (tCons (tCB (rLenG K) (tCons (tVar 2) tNil)) tNil)))) tNil)))) tNext)
  (tSeq (tIfS (tAnd (tTest (tOp (rNeG K) (tVar 1) (tLstN tNil))) (tAnd (tTest (tOp (rEqG K) (tVar 3) (tC (.str "any")))) (tTest (tOp (rEqG K) (tVar 4) (tC (.int 0)))))) (tRet (tTupN (tCons (tC (.str "fun")) (tCons (tIxG K w (tIxG K w (tVar 1) (tCall s_law_draw [] E0 (tCons (tVar 0) (tCons (tCB (rLenG K) (tCons (tVar 1) tNil)) tNil)))) (tC (.int 0))) tNil)))) tNext)
  (tRet (tTupN (tCons (tC (.str "number")) (tCons (tCall s_law_number [] E0 (tCons (tVar 0) tNil)) tNil)))))))
def t_law_fits (K : PySem.W.Frag) (w : World) : TS :=
  (tSeq (tIfS (tTest (tOp rLtG (tIxG K w (tIxG K w (tVar 0) (tC (.int 1))) (tC (.int 0))) (tVar 1))) (tRet (tC (.bl false))) tNext)
  (tSeq (tAsg (tOp rSubG (tIxG K w (tIxG K w (tVar 0) (tC (.int 1))) (tC (.int 0))) (tVar 1)) (gSub (tIxG K w (tVar 0) (tC (.int 1))) (tC (.int 0)) rSetG))
  (tRet (tC (.bl true)))))
def t_law_call (K : PySem.W.Frag) (w : World) (s_law_draw : Sp) (s_law_fits : Sp) (s_law_leaf : Sp) (s_law_part : Sp) : TS :=
  (tSeq (tAsg (tIxG K w (tVar 1) (tCall s_law_draw [] E0 (tCons (tVar 0) (tCons (tCB (rLenG K) (tCons (tVar 1) tNil)) tNil)))) (gTup K 2 (gCons (gName 5) (gCons (gName 6) gNil))))
  (tSeq (tAsg (tCB rMax2 (tCons (tC (.int 0)) (tCons (tOp (rAddG K) (tVar 6) (tIxG K w (tLstN (tCons (tC (.int 0)) (tCons (tC (.int 0)) (tCons (tC (.int 0)) (tCons (tC (.int 0)) (tCons (tC (.int 0)) (tCons (tC (.int 0)) (tCons (tC (.int 1)) (tCons (tUn (rU fun i => .int (-i)) (tC (.int 1))) tNil))))))))) (tCall s_law_draw [] E0 (tCons (tVar 0) (tCons (tC (.int 8)) tNil))))) tNil))) (gName 7))
  (tSeq (tIfS (tNot (tTru K (tCall s_law_fits [] E0 (tCons (tVar 3) (tCons (tOp rMulG (tC (.int 2)) (tVar 7)) tNil))))) (tRet (tCall s_law_leaf [] E0 (tCons (tVar 0) (tCons (tVar 1) (tCons (tVar 2) (tCons (tVar 4) tNil)))))) tNext)
  (tSeq (tAsg (tTupN (tCons (tC (.str "fun")) (tCons (tVar 5) tNil))) (gName 8))
  (tSeq (tAsg (tLstN (tCons (tOp rSubG (tIxG K w (tVar 3) (tC (.int 0))) (tVar 7)) (tCons (tIxG K w (tVar 3) (tC (.int 1))) (tCons (tIxG K w (tVar 3) (tC (.int 2))) tNil)))) (gName 9))
  (tSeq (tFor (iRng1 (tCons (tVar 7) tNil)) (gName 10) (tAsg (tTupN (tCons (tC (.str "give")) (tCons (tVar 8) (tCons (tCall s_law_part [] E0 (tCons (tVar 0) (tCons (tVar 1) (tCons (tVar 2) (tCons (tVar 9) (tCons (tIxG K w (tLstN (tCons (tC (.str "number")) (tCons (tC (.str "any")) tNil))) (tOp rDivG (tCall s_law_draw [] E0 (tCons (tVar 0) (tCons (tC (.int 3)) tNil))) (tC (.int 2)))) tNil)))))) tNil)))) (gName 8)))
  (tRet (tVar 8))))))))
def t_law_let (K : PySem.W.Frag) (w : World) (s_law_draw : Sp) (s_law_fits : Sp) (s_law_leaf : Sp) (s_law_part : Sp) : TS :=
  (tSeq (tAsg (tIxG K w (tLstN (tCons (tC (.int 1)) (tCons (tC (.int 1)) (tCons (tC (.int 2)) (tCons (tC (.int 1)) (tCons (tC (.int 2)) (tCons (tC (.int 3)) (tCons (tC (.int 4)) tNil)))))))) (tCall s_law_draw [] E0 (tCons (tVar 0) (tCons (tC (.int 7)) tNil)))) (gName 5))
  (tSeq (tIfS (tOr (tTest (tOp rLtG (tCB (rLenG K) (tCons (tIxG K w (tVar 3) (tC (.int 2))) tNil)) (tVar 5))) (tNot (tTru K (tCall s_law_fits [] E0 (tCons (tVar 3) (tCons (tOp (rAddG K) (tVar 5) (tC (.int 1))) tNil)))))) (tRet (tCall s_law_leaf [] E0 (tCons (tVar 0) (tCons (tVar 1) (tCons (tVar 2) (tCons (tVar 4) tNil)))))) tNext)
  (tSeq (tAsg (tLc (iRng1 (tCons (tVar 5) tNil)) (gName 7) tYes (tBM0 K "list" rPopG (tIxG K w (tVar 3) (tC (.int 2)))) [7]) (gName 6))
  (tSeq (tAsg (tLstN tNil) (gName 8))
  (tSeq (tFor (iSeq K (tVar 6)) (gName 9) (tSeq (tAsg (tIxG K w (tLstN (tCons (tC (.str "number")) (tCons (tC (.str "pair")) (tCons (tC (.str "any")) tNil)))) (tCall s_law_draw [] E0 (tCons (tVar 0) (tCons (tC (.int 3)) tNil)))) (gName 10))
  (tDrop (tBM K "list" rAppendG (tVar 8) (tCons (tTupN (tCons (tVar 9) (tCons (tCall s_law_part [] E0 (tCons (tVar 0) (tCons (tVar 1) (tCons (tOp (rAddG K) (tVar 2) (tVar 6)) (tCons (tVar 3) (tCons (tVar 10) tNil)))))) tNil))) tNil)))))
  (tRet (tTupN (tCons (tC (.str "let")) (tCons (tCB (rTupleG K) (tCons (tVar 8) tNil)) (tCons (tCall s_law_part [] E0 (tCons (tVar 0) (tCons (tVar 1) (tCons (tOp (rAddG K) (tVar 2) (tVar 6)) (tCons (tVar 3) (tCons (tVar 4) tNil)))))) tNil))))))))))
def t_law_part (K : PySem.W.Frag) (w : World) (s_law_draw : Sp) (s_law_leaf : Sp) (s_law_call : Sp) (s_law_let : Sp) (s_law_fits : Sp) (s_law_part : Sp) : TS :=
  (tSeq (tAsg (tDispN (((tC (.str "number")), (tC (.str "op op op op op op when when side let call call call call leaf leaf"))) :: [])) (gName 5))
  (tSeq (tAsg (tC (.str "pair pair pair pair when when side side let let call call call op leaf pair")) (gSub (tVar 5) (tC (.str "pair")) rSetG))
  (tSeq (tAsg (tC (.str "op op pair pair pair when when side side let let call call call leaf leaf")) (gSub (tVar 5) (tC (.str "any")) rSetG))
  (tSeq (tAsg (tIxG K w (tM1 rSplitG (tIxG K w (tVar 5) (tVar 4)) (tC (.str " "))) (tCall s_law_draw [] E0 (tCons (tVar 0) (tCons (tC (.int 16)) tNil)))) (gName 6))
  (tSeq (tAsg (tLstN (tCons (tOp rSubG (tIxG K w (tVar 3) (tC (.int 0))) (tC (.int 1))) (tCons (tIxG K w (tVar 3) (tC (.int 1))) (tCons (tIxG K w (tVar 3) (tC (.int 2))) tNil)))) (gName 7))
  (tSeq (tIfS (tOr (tTest (tOp rLtG (tIxG K w (tVar 3) (tC (.int 0))) (tC (.int 1)))) (tOr (tTest (tOp (rEqG K) (tVar 6) (tC (.str "leaf")))) (tAnd (tTest (tOp (rEqG K) (tVar 6) (tC (.str "call")))) (tOr (tTest (tOp (rEqG K) (tVar 1) (tLstN tNil))) (tTest (tOp rLtG (tIxG K w (tVar 3) (tC (.int 0))) (tC (.int 6)))))))) (tRet (tCall s_law_leaf [] E0 (tCons (tVar 0) (tCons (tVar 1) (tCons (tVar 2) (tCons (tVar 4) tNil)))))) tNext)
  (tSeq (tIfS (tTest (tOp (rEqG K) (tVar 6) (tC (.str "call")))) (tRet (tCall s_law_call [] E0 (tCons (tVar 0) (tCons (tVar 1) (tCons (tVar 2) (tCons (tVar 7) (tCons (tVar 4) tNil))))))) tNext)
  (tSeq (tIfS (tTest (tOp (rEqG K) (tVar 6) (tC (.str "let")))) (tRet (tCall s_law_let [] E0 (tCons (tVar 0) (tCons (tVar 1) (tCons (tVar 2) (tCons (tVar 7) (tCons (tVar 4) tNil))))))) tNext)
  (tSeq (tIfS (tNot (tTru K (tCall s_law_fits [] E0 (tCons (tVar 3) (tCons (tIxG K w (tDispN (((tC (.str "side")), (tC (.int 1))) :: (((tC (.str "pair")), (tC (.int 2))) :: (((tC (.str "when")), (tC (.int 3))) :: (((tC (.str "op")), (tC (.int 2))) :: []))))) (tVar 6)) tNil))))) (tRet (tCall s_law_leaf [] E0 (tCons (tVar 0) (tCons (tVar 1) (tCons (tVar 2) (tCons (tVar 4) tNil)))))) tNext)
  (tSeq (tIfS (tTest (tOp (rEqG K) (tVar 6) (tC (.str "side")))) (tRet (tTupN (tCons (tIxG K w (tLstN (tCons (tC (.str "left")) (tCons (tC (.str "right")) tNil))) (tCall s_law_draw [] E0 (tCons (tVar 0) (tCons (tC (.int 2)) tNil)))) (tCons (tCall s_law_part [] E0 (tCons (tVar 0) (tCons (tVar 1) (tCons (tVar 2) (tCons (tVar 7) (tCons (tC (.str "pair")) tNil)))))) tNil)))) tNext)
  (tSeq (tAsg (tCall s_law_part [] E0 (tCons (tVar 0) (tCons (tVar 1) (tCons (tVar 2) (tCons (tVar 7) (tCons (tIxG K w (tLstN (tCons (tC (.str "number")) (tCons (tC (.str "any")) tNil))) (tCB rIntG (tCons (tOp (rEqG K) (tVar 6) (tC (.str "pair"))) tNil))) tNil)))))) (gName 8))
  (tSeq (tAsg (tCall s_law_part [] E0 (tCons (tVar 0) (tCons (tVar 1) (tCons (tVar 2) (tCons (tVar 7) (tCons (tIxG K w (tDispN (((tC (.str "pair")), (tC (.str "any"))) :: (((tC (.str "when")), (tVar 4)) :: (((tC (.str "op")), (tC (.str "number"))) :: [])))) (tVar 6)) tNil)))))) (gName 9))
  (tSeq (tIfS (tTest (tOp (rEqG K) (tVar 6) (tC (.str "pair")))) (tRet (tTupN (tCons (tC (.str "pair")) (tCons (tVar 8) (tCons (tVar 9) tNil))))) tNext)
  (tSeq (tIfS (tTest (tOp (rEqG K) (tVar 6) (tC (.str "when")))) (tRet (tTupN (tCons (tC (.str "when")) (tCons (tVar 8) (tCons (tVar 9) (tCons (tCall s_law_part [] E0 (tCons (tVar 0) (tCons (tVar 1) (tCons (tVar 2) (tCons (tVar 7) (tCons (tVar 4) tNil)))))) tNil)))))) tNext)
  (tRet (tTupN (tCons (tIxG K w (tLstN (tCons (tC (.str "plus")) (tCons (tC (.str "less")) (tCons (tC (.str "times")) (tCons (tC (.str "below")) tNil))))) (tCall s_law_draw [] E0 (tCons (tVar 0) (tCons (tC (.int 4)) tNil)))) (tCons (tVar 8) (tCons (tVar 9) tNil)))))))))))))))))))
def t_law_loop (K : PySem.W.Frag) (w : World) (s_law_part : Sp) (s_law_draw : Sp) : TS :=
  (tSeq (tAsg (tTupN (tCons (tC (.str "give")) (tCons (tTupN (tCons (tC (.str "fun")) (tCons (tVar 2) tNil))) (tCons (tTupN (tCons (tC (.str "less")) (tCons (tTupN (tCons (tC (.str "name")) (tCons (tIxG K w (tVar 3) (tC (.int 0))) tNil))) (tCons (tTupN (tCons (tC (.str "number")) (tCons (tC (.int 1)) tNil))) tNil)))) tNil)))) (gName 5))
  (tSeq (tFor (iSeq K (tSl (rSlG K) (tVar 3) (tPart (tC (.int 1))) tNoPart)) (gName 6) (tSeq (tAsg (tCall s_law_part [] E0 (tCons (tVar 0) (tCons (tVar 1) (tCons (tVar 3) (tCons (tLstN (tCons (tC (.int 2)) (tCons (tIxG K w (tVar 4) (tC (.int 1))) (tCons (tIxG K w (tVar 4) (tC (.int 2))) tNil)))) (tCons (tC (.str "any")) tNil)))))) (gName 7))
  (tAsg (tTupN (tCons (tC (.str "give")) (tCons (tVar 5) (tCons (tIxG K w (tLstN (tCons (tTupN (tCons (tC (.str "name")) (tCons (tVar 6) tNil))) (tCons (tVar 7) tNil))) (tCall s_law_draw [] E0 (tCons (tVar 0) (tCons (tC (.int 2)) tNil)))) tNil)))) (gName 5))))
  (tSeq (tAsg (tCall s_law_part [] E0 (tCons (tVar 0) (tCons (tVar 1) (tCons (tVar 3) (tCons (tLstN (tCons (tC (.int 3)) (tCons (tIxG K w (tVar 4) (tC (.int 1))) (tCons (tIxG K w (tVar 4) (tC (.int 2))) tNil)))) (tCons (tC (.str "number")) tNil)))))) (gName 8))
  (tSeq (tAsg (tIxG K w (tLstN (tCons (tVar 5) (tCons (tTupN (tCons (tC (.str "plus")) (tCons (tVar 8) (tCons (tVar 5) tNil)))) (tCons (tTupN (tCons (tC (.str "pair")) (tCons (tVar 8) (tCons (tVar 5) tNil)))) (tCons (tTupN (tCons (tC (.str "plus")) (tCons (tVar 5) (tCons (tVar 8) tNil)))) tNil))))) (tCall s_law_draw [] E0 (tCons (tVar 0) (tCons (tC (.int 4)) tNil)))) (gName 9))
  (tRet (tTupN (tCons (tC (.str "when")) (tCons (tTupN (tCons (tC (.str "name")) (tCons (tIxG K w (tVar 3) (tC (.int 0))) tNil))) (tCons (tVar 9) (tCons (tCall s_law_part [] E0 (tCons (tVar 0) (tCons (tVar 1) (tCons (tVar 3) (tCons (tLstN (tCons (tC (.int 3)) (tCons (tIxG K w (tVar 4) (tC (.int 1))) (tCons (tIxG K w (tVar 4) (tC (.int 2))) tNil)))) (tCons (tC (.str "number")) tNil)))))) tNil))))))))))
def t_law_body (K : PySem.W.Frag) (w : World) (s_law_draw : Sp) (s_law_loop : Sp) (s_law_part : Sp) : TS :=
  (tSeq (tAsg (tIxG K w (tLstN (tCons (tC (.int 2)) (tCons (tC (.int 7)) (tCons (tC (.int 9)) (tCons (tC (.int 11)) tNil))))) (tCall s_law_draw [] E0 (tCons (tVar 0) (tCons (tC (.int 4)) tNil)))) (gName 5))
  (tSeq (tAsg (tIxG K w (tLstN (tCons (tC (.int 2)) (tCons (tC (.int 7)) (tCons (tC (.int 14)) (tCons (tC (.int 24)) (tCons (tC (.int 40)) (tCons (tC (.int 59)) tNil))))))) (tCall s_law_draw [] E0 (tCons (tVar 0) (tCons (tC (.int 6)) tNil)))) (gName 6))
  (tSeq (tIfS (tAnd (tTest (tOp (rNeG K) (tVar 2) (tC (.str "")))) (tAnd (tTest (tOp (rNeG K) (tVar 3) (tLstN tNil))) (tTest (tOp (rEqG K) (tCall s_law_draw [] E0 (tCons (tVar 0) (tCons (tC (.int 3)) tNil))) (tC (.int 0)))))) (tRet (tCall s_law_loop [] E0 (tCons (tVar 0) (tCons (tVar 1) (tCons (tVar 2) (tCons (tVar 3) (tCons (tLstN (tCons (tVar 5) (tCons (tLstN (tCons (tCB rMin2 (tCons (tVar 6) (tCons (tC (.int 40)) tNil))) tNil)) (tCons (tVar 4) tNil)))) tNil))))))) tNext)
  (tSeq (tIfS (tAnd (tTest (tOp (rEqG K) (tVar 2) (tC (.str "")))) (tAnd (tTest (tOp (rNeG K) (tVar 1) (tLstN tNil))) (tTest (tOp (rEqG K) (tCall s_law_draw [] E0 (tCons (tVar 0) (tCons (tC (.int 2)) tNil))) (tC (.int 0)))))) (tSeq (tAsg (tTupN (tCons (tC (.str "fun")) (tCons (tIxG K w (tIxG K w (tVar 1) (tC (.int 0))) (tC (.int 0))) tNil))) (gName 7))
  (tSeq (tFor (iRng1 (tCons (tIxG K w (tIxG K w (tVar 1) (tC (.int 0))) (tC (.int 1))) tNil)) (gName 8) (tAsg (tTupN (tCons (tC (.str "give")) (tCons (tVar 7) (tCons (tTupN (tCons (tC (.str "number")) (tCons (tCall s_law_draw [] E0 (tCons (tVar 0) (tCons (tC (.int 8)) tNil))) tNil))) tNil)))) (gName 7)))
  (tRet (tVar 7)))) tNext)
  (tRet (tCall s_law_part [] E0 (tCons (tVar 0) (tCons (tVar 1) (tCons (tVar 3) (tCons (tLstN (tCons (tVar 5) (tCons (tLstN (tCons (tVar 6) tNil)) (tCons (tVar 4) tNil)))) (tCons (tC (.str "any")) tNil)))))))))))
def t_law_program (K : PySem.W.Frag) (w : World) (s_law_names : Sp) (s_law_draw : Sp) (s_law_body : Sp) : TS :=
  (tSeq (tAsg (tCall s_law_names [] E0 (tCons (tVar 0) (tCons (tIxG K w (tLstN (tCons (tC (.int 0)) (tCons (tC (.int 1)) (tCons (tC (.int 2)) (tCons (tC (.int 3)) (tCons (tC (.int 4)) (tCons (tC (.int 2)) (tCons (tC (.int 3)) (tCons (tC (.int 8)) tNil))))))))) (tCall s_law_draw [] E0 (tCons (tVar 0) (tCons (tC (.int 8)) tNil)))) tNil))) (gName 1))
  (tSeq (tAsg (tLc (iSeq K (tVar 1)) (gName 3) tYes (tTupN (tCons (tVar 3) (tCons (tIxG K w (tLstN (tCons (tC (.int 1)) (tCons (tC (.int 0)) (tCons (tC (.int 1)) (tCons (tC (.int 2)) (tCons (tC (.int 2)) (tCons (tC (.int 3)) (tCons (tC (.int 4)) tNil)))))))) (tCall s_law_draw [] E0 (tCons (tVar 0) (tCons (tC (.int 7)) tNil)))) tNil))) [3]) (gName 2))
  (tSeq (tAsg (tLstN tNil) (gName 4))
  (tSeq (tFor (iSeq K (tVar 2)) (gTup K 2 (gCons (gName 3) (gCons (gName 5) gNil))) (tSeq (tAsg (tCall s_law_names [] E0 (tCons (tVar 0) (tCons (tC (.int 26)) tNil))) (gName 6))
  (tSeq (tAsg (tSl (rSlG K) (tVar 6) tNoPart (tPart (tVar 5))) (gName 7))
  (tDrop (tBM K "list" rAppendG (tVar 4) (tCons (tTupN (tCons (tVar 3) (tCons (tCB (rTupleG K) (tCons (tVar 7) tNil)) (tCons (tCall s_law_body [] E0 (tCons (tVar 0) (tCons (tVar 2) (tCons (tVar 3) (tCons (tVar 7) (tCons (tSl (rSlG K) (tVar 6) (tPart (tVar 5)) tNoPart) tNil)))))) tNil)))) tNil))))))
  (tRet (tTupN (tCons (tCB (rTupleG K) (tCons (tVar 4) tNil)) (tCons (tCall s_law_body [] E0 (tCons (tVar 0) (tCons (tVar 2) (tCons (tC (.str "")) (tCons (tLstN tNil) (tCons (tCall s_law_names [] E0 (tCons (tVar 0) (tCons (tC (.int 26)) tNil))) tNil)))))) tNil))))))))
def t_law_ground (K : PySem.W.Frag) (w : World) (s_law_inner : Sp) (s_law_many : Sp) (s_law_ground : Sp) : TS :=
  (tSeq (tAsg (tLstN tNil) (gName 3))
  (tSeq (tAsg (tOp (rAddG K) (tVar 1) (tC (.int 1))) (gName 4))
  (tSeq (tAsg (tCall s_law_inner [] E0 (tCons (tVar 0) tNil)) (gName 5))
  (tSeq (tFor (iSeq K (tVar 5)) (gName 6) (tSeq (tDrop (tBM K "list" rAppendG (tVar 3) (tCons (tVar 4) tNil)))
  (tAsg (tOp (rAddG K) (tVar 4) (tCall s_law_many [] E0 (tCons (tVar 6) tNil))) (gName 4))))
  (tSeq (tIfS (tTest (tOp (rEqG K) (tIxG K w (tVar 0) (tC (.int 0))) (tC (.str "let")))) (tSeq (tAsg (tCB rDictG (tCons (tVar 2) tNil)) (gName 2))
  (tFor (iZipM K (tCons (tIxG K w (tVar 0) (tC (.int 1))) (tCons (tVar 3) tNil))) (gTup K 2 (gCons (gName 7) (gCons (gName 4) gNil))) (tAsg (tTupN (tCons (tC (.str "row")) (tCons (tVar 4) tNil))) (gSub (tVar 2) (tIxG K w (tVar 7) (tC (.int 0))) rSetG)))) tNext)
  (tSeq (tAsg (tLstN (tCons (tTupN (tCons (tVar 0) (tCons (tVar 3) (tCons (tIf (tTest (tOp (rEqG K) (tIxG K w (tVar 0) (tC (.int 0))) (tC (.str "name")))) (tIxG K w (tVar 2) (tIxG K w (tVar 0) (tC (.int 1)))) (tC .non)) tNil)))) tNil)) (gName 8))
  (tSeq (tFor (iZipM K (tCons (tVar 5) (tCons (tVar 3) tNil))) (gTup K 2 (gCons (gName 6) (gCons (gName 4) gNil))) (tAsg (tOp (rAddG K) (tVar 8) (tCall s_law_ground [] E0 (tCons (tVar 6) (tCons (tVar 4) (tCons (tVar 2) tNil))))) (gName 8)))
  (tRet (tVar 8)))))))))
def t_law_innerN (K : PySem.W.Frag) (w : World) : TS :=
  (tSeq (tIfS (tTest (tOp (rInG K w false) (tIxG K w (tVar 0) (tC (.int 0))) (tTupN (tCons (tC (.str "number")) (tCons (tC (.str "name")) (tCons (tC (.str "fun")) tNil)))))) (tRet (tLstN tNil)) tNext)
  (tRet (tIf (tTest (tOp (rEqG K) (tIxG K w (tVar 0) (tC (.int 0))) (tC (.str "let")))) (tOp (rAddG K) (tLc (iSeq K (tIxG K w (tVar 0) (tC (.int 1)))) (gName 1) tYes (tIxG K w (tVar 1) (tC (.int 1))) [1]) (tLstN (tCons (tIxG K w (tVar 0) (tC (.int 2))) tNil))) (tLc (iSeq K (tSl (rSlG K) (tVar 0) (tPart (tC (.int 1))) tNoPart)) (gName 2) tYes (tVar 2) [2]))))
def t_law_many (K : PySem.W.Frag) (w : World) (s_law_inner : Sp) (s_law_many : Sp) : TS :=
  (tRet (tOp (rAddG K) (tC (.int 1)) (tCB (rSum K) (tCons (tLc (iSeq K (tCall s_law_inner [] E0 (tCons (tVar 0) tNil))) (gName 1) tYes (tCall s_law_many [] E0 (tCons (tVar 1) tNil)) [1]) tNil))))
def t_law_grounds (K : PySem.W.Frag) (w : World) (s_law_ground : Sp) : TS :=
  (tSeq (tAsg (tLstN tNil) (gName 1))
  (tSeq (tAsg (tDNewKN) (gName 2))
  (tSeq (tFor (iSeq K (tOp (rAddG K) (tIxG K w (tVar 0) (tC (.int 0))) (tTupN (tCons (tTupN (tCons (tC (.str "")) (tCons (tTupN tNil) (tCons (tIxG K w (tVar 0) (tC (.int 1))) tNil)))) tNil)))) (gTup K 3 (gCons (gName 3) (gCons (gName 4) (gCons (gName 5) gNil)))) (tSeq (tAsg (tDNewKN) (gName 6))
  (tSeq (tFor (iEnumT K (tCons (tVar 4) tNil)) (gTup K 2 (gCons (gName 7) (gCons (gName 8) gNil))) (tAsg (tTupN (tCons (tC (.str "thing")) (tCons (tVar 7) tNil))) (gSub (tVar 6) (tVar 8) rSetG)))
  (tSeq (tAsg (tTupN (tCons (tCB (rLenG K) (tCons (tVar 1) tNil)) (tCons (tCB (rLenG K) (tCons (tVar 4) tNil)) tNil))) (gSub (tVar 2) (tVar 3) rSetG))
  (tAsg (tOp (rAddG K) (tVar 1) (tCall s_law_ground [] E0 (tCons (tVar 5) (tCons (tCB (rLenG K) (tCons (tVar 1) tNil)) (tCons (tVar 6) tNil))))) (gName 1))))))
  (tRet (tLstN (tCons (tVar 1) (tCons (tVar 2) tNil)))))))
def t_law_node (K : PySem.W.Frag) (w : World) : TS :=
  (tSeq (tAsg (tTupN (tCons (tVar 1) (tCons (tVar 2) tNil))) (gName 3))
  (tSeq (tIfS (tAnd (tTest (tOp (rInGN K w true) (tVar 3) (tIxN K w (tVar 0) (tC (.int 1))))) (tTru K (tIxN K w (tVar 0) (tC (.int 2))))) (tRet (tUn (rU fun i => .int (-i)) (tC (.int 1)))) tNext)
  (tSeq (tIfS (tTest (tOp (rInGN K w true) (tVar 3) (tIxN K w (tVar 0) (tC (.int 1))))) (tSeq (tAsg (tCB (rLenG K) (tCons (tIxN K w (tVar 0) (tC (.int 0))) tNil)) (gSub (tIxN K w (tVar 0) (tC (.int 1))) (tVar 3) (rSetGN w)))
  (tDrop (tBM K "list" rAppendG (tIxN K w (tVar 0) (tC (.int 0))) (tCons (tVar 3) tNil)))) tNext)
  (tRet (tIxN K w (tIxN K w (tVar 0) (tC (.int 1))) (tVar 3))))))
def t_law_seen (K : PySem.W.Frag) (w : World) (s_law_node : Sp) : TS :=
  (tSeq (tAsg (tIxG K w (tIxG K w (tIxG K w (tVar 0) (tC (.int 0))) (tVar 2)) (tC (.int 2))) (gName 4))
  (tSeq (tIfS (tTest (tOp (rIsG false) (tVar 4) (tC .non))) (tRet (tCall s_law_node [] E0 (tCons (tVar 1) (tCons (tVar 2) (tCons (tVar 3) tNil))))) tNext)
  (tRet (tIf (tTest (tOp (rEqG K) (tIxG K w (tVar 4) (tC (.int 0))) (tC (.str "thing")))) (tIxG K w (tVar 3) (tIxG K w (tVar 4) (tC (.int 1)))) (tCall s_law_node [] E0 (tCons (tVar 1) (tCons (tIxG K w (tVar 4) (tC (.int 1))) (tCons (tVar 3) tNil))))))))
def t_law_passed (K : PySem.W.Frag) (w : World) : TS :=
  (tRet (tIf (tTest (tOp (rEqG K) (tVar 2) (tLstN tNil))) (tTupN (tCons (tVar 0) (tCons (tVar 1) tNil))) (tTupN (tCons (tC (.str "worth")) (tCons (tIxG K w (tVar 2) (tC (.int 0))) tNil)))))
def t_law_two (K : PySem.W.Frag) (w : World) : TS :=
  (tSeq (tIfS (tTest (tOp (rNeG K) (tIxG K w (tVar 2) (tC (.int 0))) (tC (.str "number")))) (tRet (tTupN (tCons (tC (.str "fault")) (tCons (tC (.str "number")) tNil)))) tNext)
  (tSeq (tPar 3 4 (tCons (tIxG K w (tVar 1) (tC (.int 1))) (tCons (tIxG K w (tVar 2) (tC (.int 1))) tNil)))
  (tSeq (tAsg (tIxG K w (tDispN (((tC (.str "plus")), (tOp (rAddG K) (tVar 3) (tVar 4))) :: (((tC (.str "less")), (tOp rSubG (tVar 3) (tVar 4))) :: (((tC (.str "times")), (tOp rMulG (tVar 3) (tVar 4))) :: (((tC (.str "below")), (tCB rIntG (tCons (tOp rLtG (tVar 3) (tVar 4)) tNil))) :: []))))) (tVar 0)) (gName 5))
  (tRet (tIf (tTest (tOp rGeG (tCB rAbsG (tCons (tVar 5) tNil)) (tOp rPowG (tC (.int 10)) (tC (.int 60))))) (tTupN (tCons (tC (.str "fault")) (tCons (tC (.str "great")) tNil))) (tTupN (tCons (tC (.str "worth")) (tCons (tTupN (tCons (tC (.str "number")) (tCons (tVar 5) tNil))) tNil))))))))
def t_law_given (K : PySem.W.Frag) (w : World) (s_law_passed : Sp) (s_law_node : Sp) : TS :=
  (tSeq (tIfS (tTest (tOp (rNeG K) (tIxG K w (tVar 2) (tC (.int 0))) (tC (.str "function")))) (tRet (tTupN (tCons (tC (.str "fault")) (tCons (tC (.str "function")) tNil)))) tNext)
  (tSeq (tAsg (tOp (rAddG K) (tIxG K w (tVar 2) (tC (.int 2))) (tTupN (tCons (tVar 3) tNil))) (gName 5))
  (tSeq (tAsg (tIxG K w (tIxG K w (tVar 0) (tC (.int 1))) (tIxG K w (tVar 2) (tC (.int 1)))) (gTup K 2 (gCons (gName 6) (gCons (gName 7) gNil))))
  (tSeq (tIfS (tTest (tOp rLtG (tCB (rLenG K) (tCons (tVar 5) tNil)) (tVar 7))) (tRet (tTupN (tCons (tC (.str "worth")) (tCons (tTupN (tCons (tC (.str "function")) (tCons (tIxG K w (tVar 2) (tC (.int 1))) (tCons (tVar 5) tNil)))) tNil)))) tNext)
  (tRet (tCall s_law_passed [] E0 (tCons (tC (.str "call")) (tCons (tCall s_law_node [] E0 (tCons (tVar 1) (tCons (tVar 6) (tCons (tVar 5) tNil)))) (tCons (tVar 4) tNil)))))))))
def t_law_behind (K : PySem.W.Frag) (w : World) (s_law_seen : Sp) (s_law_passed : Sp) (s_law_node : Sp) (s_law_given : Sp) (s_law_two : Sp) : TS :=
  (tSeq (tAsg (tIxG K w (tIxG K w (tVar 1) (tC (.int 0))) (tVar 2)) (gTup K 2 (gCons (gName 4) (gCons (gName 5) gNil))))
  (tSeq (tAsg (tIxG K w (tIxG K w (tVar 0) (tC (.int 0))) (tVar 4)) (gTup K 3 (gCons (gName 6) (gCons (gName 7) (gCons (gName 8) gNil)))))
  (tSeq (tAsg (tIxG K w (tVar 6) (tC (.int 0))) (gName 9))
  (tSeq (tAsg (tLc (iSeq K (tVar 7)) (gName 11) tYes (tCall s_law_seen [] E0 (tCons (tVar 0) (tCons (tVar 1) (tCons (tVar 11) (tCons (tVar 5) tNil))))) [11]) (gName 10))
  (tSeq (tIfS (tTest (tOp (rInG K w false) (tVar 9) (tTupN (tCons (tC (.str "number")) (tCons (tC (.str "pair")) tNil))))) (tRet (tTupN (tCons (tC (.str "worth")) (tCons (tIf (tTest (tOp (rEqG K) (tVar 9) (tC (.str "number")))) (tTupN (tCons (tC (.str "number")) (tCons (tIxG K w (tVar 6) (tC (.int 1))) tNil))) (tTupN (tCons (tC (.str "pair")) (tCons (tIxG K w (tVar 10) (tC (.int 0))) (tCons (tIxG K w (tVar 10) (tC (.int 1))) tNil))))) tNil)))) tNext)
  (tSeq (tIfS (tTest (tOp (rInG K w false) (tVar 9) (tTupN (tCons (tC (.str "name")) (tCons (tC (.str "let")) tNil))))) (tSeq (tAsg (tIf (tTest (tOp (rEqG K) (tVar 9) (tC (.str "name")))) (tCall s_law_seen [] E0 (tCons (tVar 0) (tCons (tVar 1) (tCons (tVar 4) (tCons (tVar 5) tNil))))) (tIxG K w (tVar 10) (tUn (rU fun i => .int (-i)) (tC (.int 1))))) (gName 12))
  (tRet (tCall s_law_passed [] E0 (tCons (tC (.str "need")) (tCons (tVar 12) (tCons (tVar 3) tNil)))))) tNext)
  (tSeq (tIfS (tAnd (tTest (tOp (rEqG K) (tVar 9) (tC (.str "fun")))) (tTest (tOp rGtG (tIxG K w (tIxG K w (tIxG K w (tVar 0) (tC (.int 1))) (tIxG K w (tVar 6) (tC (.int 1)))) (tC (.int 1))) (tC (.int 0))))) (tRet (tTupN (tCons (tC (.str "worth")) (tCons (tTupN (tCons (tC (.str "function")) (tCons (tIxG K w (tVar 6) (tC (.int 1))) (tCons (tTupN tNil) tNil)))) tNil)))) tNext)
  (tSeq (tIfS (tTest (tOp (rEqG K) (tVar 9) (tC (.str "fun")))) (tRet (tCall s_law_passed [] E0 (tCons (tC (.str "call")) (tCons (tCall s_law_node [] E0 (tCons (tVar 1) (tCons (tIxG K w (tIxG K w (tIxG K w (tVar 0) (tC (.int 1))) (tIxG K w (tVar 6) (tC (.int 1)))) (tC (.int 0))) (tCons (tTupN tNil) tNil)))) (tCons (tVar 3) tNil))))) tNext)
  (tSeq (tIfS (tTest (tOp (rEqG K) (tVar 3) (tLstN tNil))) (tRet (tTupN (tCons (tC (.str "need")) (tCons (tIxG K w (tVar 10) (tC (.int 0))) tNil)))) tNext)
  (tSeq (tAsg (tIxG K w (tVar 3) (tC (.int 0))) (gName 13))
  (tSeq (tIfS (tTest (tOp (rEqG K) (tVar 9) (tC (.str "give")))) (tRet (tCall s_law_given [] E0 (tCons (tVar 0) (tCons (tVar 1) (tCons (tVar 13) (tCons (tIxG K w (tVar 10) (tC (.int 1))) (tCons (tSl (rSlG K) (tVar 3) (tPart (tC (.int 1))) tNoPart) tNil))))))) tNext)
  (tSeq (tIfS (tTest (tOp (rInG K w false) (tVar 9) (tTupN (tCons (tC (.str "left")) (tCons (tC (.str "right")) tNil))))) (tSeq (tAsg (tOp (rAddG K) (tC (.int 1)) (tCB rIntG (tCons (tOp (rEqG K) (tVar 9) (tC (.str "right"))) tNil))) (gName 14))
  (tRet (tIf (tTest (tOp (rEqG K) (tIxG K w (tVar 13) (tC (.int 0))) (tC (.str "pair")))) (tCall s_law_passed [] E0 (tCons (tC (.str "need")) (tCons (tIxG K w (tVar 13) (tVar 14)) (tCons (tSl (rSlG K) (tVar 3) (tPart (tC (.int 1))) tNoPart) tNil)))) (tTupN (tCons (tC (.str "fault")) (tCons (tC (.str "pair")) tNil)))))) tNext)
  (tSeq (tIfS (tTest (tOp (rNeG K) (tIxG K w (tVar 13) (tC (.int 0))) (tC (.str "number")))) (tRet (tTupN (tCons (tC (.str "fault")) (tCons (tC (.str "number")) tNil)))) tNext)
  (tSeq (tIfS (tTest (tOp (rEqG K) (tVar 9) (tC (.str "when")))) (tRet (tCall s_law_passed [] E0 (tCons (tC (.str "need")) (tCons (tIxG K w (tVar 10) (tOp (rAddG K) (tC (.int 1)) (tCB rIntG (tCons (tOp (rEqG K) (tIxG K w (tVar 13) (tC (.int 1))) (tC (.int 0))) tNil)))) (tCons (tSl (rSlG K) (tVar 3) (tPart (tC (.int 1))) tNoPart) tNil))))) tNext)
  (tRet (tIf (tTest (tOp (rEqG K) (tCB (rLenG K) (tCons (tVar 3) tNil)) (tC (.int 1)))) (tTupN (tCons (tC (.str "need")) (tCons (tIxG K w (tVar 10) (tC (.int 1))) tNil))) (tCall s_law_two [] E0 (tCons (tVar 9) (tCons (tVar 13) (tCons (tIxG K w (tVar 3) (tC (.int 1))) tNil))))))))))))))))))))
def t_law_worth (K : PySem.W.Frag) (w : World) (s_law_draw : Sp) (s_law_number : Sp) : TS :=
  (tSeq (tAsg (tCall s_law_draw [] E0 (tCons (tVar 0) (tCons (tC (.int 6)) tNil))) (gName 3))
  (tSeq (tAsg (tLc (iSeq K (tIxG K w (tVar 1) (tC (.int 0)))) (gTup K 3 (gCons (gName 5) (gCons (gName 6) (gCons (gName 7) gNil)))) (tTest (tOp (rNeG K) (tVar 6) (tTupN tNil))) (tTupN (tCons (tVar 5) (tCons (tCB (rLenG K) (tCons (tVar 6) tNil)) tNil))) [5, 6, 7]) (gName 4))
  (tSeq (tIfS (tTest (tOp (rEqG K) (tVar 3) (tC (.int 0)))) (tRet (tTupN (tCons (tC (.str "pair")) (tCons (tCall s_law_draw [] E0 (tCons (tVar 0) (tCons (tVar 2) tNil))) (tCons (tCall s_law_draw [] E0 (tCons (tVar 0) (tCons (tVar 2) tNil))) tNil))))) tNext)
  (tSeq (tIfS (tAnd (tTest (tOp rLtG (tVar 3) (tC (.int 3)))) (tTest (tOp (rNeG K) (tVar 4) (tLstN tNil)))) (tSeq (tAsg (tIxG K w (tVar 4) (tCall s_law_draw [] E0 (tCons (tVar 0) (tCons (tCB (rLenG K) (tCons (tVar 4) tNil)) tNil)))) (gTup K 2 (gCons (gName 5) (gCons (gName 8) gNil))))
  (tRet (tTupN (tCons (tC (.str "function")) (tCons (tVar 5) (tCons (tCB (rTupleG K) (tCons (tLc (iRng1 (tCons (tCall s_law_draw [] E0 (tCons (tVar 0) (tCons (tVar 8) tNil))) tNil)) (gName 9) tYes (tCall s_law_draw [] E0 (tCons (tVar 0) (tCons (tVar 2) tNil))) [9]) tNil)) tNil)))))) tNext)
  (tRet (tTupN (tCons (tC (.str "number")) (tCons (tIxG K w (tLstN (tCons (tCall s_law_number [] E0 (tCons (tVar 0) tNil)) (tCons (tOp rSubG (tOp rPowG (tC (.int 10)) (tC (.int 60))) (tC (.int 1))) (tCons (tOp rSubG (tC (.int 1)) (tOp rPowG (tC (.int 10)) (tC (.int 60)))) (tCons (tC (.int 0)) tNil))))) (tCall s_law_draw [] E0 (tCons (tVar 0) (tCons (tC (.int 4)) tNil)))) tNil))))))))
def t_law_wish (K : PySem.W.Frag) (w : World) (s_law_worth : Sp) : TS :=
  (tSeq (tAsg (tCall s_law_worth [] E0 (tCons (tVar 0) (tCons (tVar 1) (tCons (tVar 3) tNil)))) (gName 4))
  (tSeq (tFor (iRng1 (tCons (tC (.int 3)) tNil)) (gName 5) (tSeq (tAsg (tCall s_law_worth [] E0 (tCons (tVar 0) (tCons (tVar 1) (tCons (tVar 3) tNil)))) (gName 6))
  (tSeq (tAsg (tDGet2 (tDispN (((tC (.str "give")), (tC (.str "function"))) :: (((tC (.str "left")), (tC (.str "pair"))) :: (((tC (.str "right")), (tC (.str "pair"))) :: [])))) (tVar 2) (tC (.str "number"))) (gName 7))
  (tIfS (tTest (tOp (rNeG K) (tIxG K w (tVar 4) (tC (.int 0))) (tVar 7))) (tAsg (tVar 6) (gName 4)) tNext))))
  (tRet (tVar 4))))
def t_law_same (K : PySem.W.Frag) (w : World) (s_Nodes_told : Sp) : TS :=
  (tSeq (tIfS (tOr (tTest (tOp (rNeG K) (tIxG K w (tVar 2) (tC (.int 0))) (tIxG K w (tVar 3) (tC (.int 0))))) (tOr (tNot (tTru K (tCB (rIsiG K) (tCons (tVar 2) (tCons (tC (.ty "tuple")) tNil))))) (tTest (tOp (rNeG K) (tCB (rLenG K) (tCons (tVar 2) tNil)) (tC (.int 2)))))) (tRet (tC (.bl false))) tNext)
  (tSeq (tIfS (tTest (tOp (rInG K w false) (tIxG K w (tVar 3) (tC (.int 0))) (tTupN (tCons (tC (.str "need")) (tCons (tC (.str "call")) tNil))))) (tSeq (tPar 4 5 (tCons (tMeth (He.ga K "Nodes") "told" s_Nodes_told [] E0 (tVar 0) (tCons (tIxG K w (tVar 2) (tC (.int 1))) tNil)) (tCons (tIxG K w (tIxG K w (tVar 1) (tC (.int 0))) (tIxG K w (tVar 3) (tC (.int 1)))) tNil)))
  (tSeq (tPar 6 7 (tCons (tLc (iSeq K (tIxG K w (tVar 4) (tC (.int 1)))) (gName 8) tYes (tMeth (He.ga K "Nodes") "told" s_Nodes_told [] E0 (tVar 0) (tCons (tVar 8) tNil)) [8]) (tCons (tLc (iSeq K (tIxG K w (tVar 5) (tC (.int 1)))) (gName 8) tYes (tIxG K w (tIxG K w (tVar 1) (tC (.int 0))) (tVar 8)) [8]) tNil)))
  (tRet (tAndT K (tOp (rEqG K) (tIxG K w (tVar 4) (tC (.int 0))) (tIxG K w (tVar 5) (tC (.int 0)))) (tOp (rEqG K) (tVar 6) (tVar 7)))))) tNext)
  (tSeq (tIfS (tOr (tTest (tOp (rEqG K) (tIxG K w (tVar 3) (tC (.int 0))) (tC (.str "fault")))) (tTest (tOp (rEqG K) (tIxG K w (tIxG K w (tVar 3) (tC (.int 1))) (tC (.int 0))) (tC (.str "number"))))) (tRet (tAndT K (tOp (rEqG K) (tVar 2) (tVar 3)) (tNotT K (tCB (rIsiG K) (tCons (tIxG K w (tIxG K w (tVar 2) (tC (.int 1))) (tC (.int 1))) (tCons (tC (.ty "bool")) tNil)))))) tNext)
  (tSeq (tIfS (tTest (tOp (rEqG K) (tIxG K w (tIxG K w (tVar 3) (tC (.int 1))) (tC (.int 0))) (tC (.str "pair")))) (tSeq (tIfS (tOr (tTest (tOp (rNeG K) (tIxG K w (tIxG K w (tVar 2) (tC (.int 1))) (tC (.int 0))) (tC (.str "pair")))) (tTest (tOp (rNeG K) (tCB (rLenG K) (tCons (tIxG K w (tVar 2) (tC (.int 1))) tNil)) (tC (.int 3))))) (tRet (tC (.bl false))) tNext)
  (tRet (tOp (rEqG K) (tLc (iSeq K (tSl (rSlG K) (tIxG K w (tVar 2) (tC (.int 1))) (tPart (tC (.int 1))) tNoPart)) (gName 8) tYes (tMeth (He.ga K "Nodes") "told" s_Nodes_told [] E0 (tVar 0) (tCons (tVar 8) tNil)) [8]) (tLc (iSeq K (tSl (rSlG K) (tIxG K w (tVar 3) (tC (.int 1))) (tPart (tC (.int 1))) tNoPart)) (gName 8) tYes (tIxG K w (tIxG K w (tVar 1) (tC (.int 0))) (tVar 8)) [8])))) tNext)
  (tSeq (tIfS (tOr (tTest (tOp (rNeG K) (tSl (rSlG K) (tIxG K w (tVar 2) (tC (.int 1))) tNoPart (tPart (tC (.int 2)))) (tSl (rSlG K) (tIxG K w (tVar 3) (tC (.int 1))) tNoPart (tPart (tC (.int 2)))))) (tNot (tTru K (tCB (rIsiG K) (tCons (tIxG K w (tIxG K w (tVar 2) (tC (.int 1))) (tC (.int 2))) (tCons (tC (.ty "tuple")) tNil)))))) (tRet (tC (.bl false))) tNext)
  (tRet (tOp (rEqG K) (tLc (iSeq K (tIxG K w (tIxG K w (tVar 2) (tC (.int 1))) (tC (.int 2)))) (gName 8) tYes (tMeth (He.ga K "Nodes") "told" s_Nodes_told [] E0 (tVar 0) (tCons (tVar 8) tNil)) [8]) (tLc (iSeq K (tIxG K w (tIxG K w (tVar 3) (tC (.int 1))) (tC (.int 2)))) (gName 8) tYes (tIxG K w (tIxG K w (tVar 1) (tC (.int 0))) (tVar 8)) [8]))))))))
def t_law (K : PySem.W.Frag) (w : World) (s_law_pen : Sp) (s_law_program : Sp) (s_law_grounds : Sp) (s_law_many : Sp) (s_Nodes___init__ : Sp) (s_law_draw : Sp) (s_Nodes_node : Sp) (s_law_node : Sp) (s_law_behind : Sp) (s_law_same : Sp) (s_behind : Sp) (s_law_wish : Sp) : TS :=
  (tSeq (tAsg (tCall s_law_pen [] E0 (tCons (tVar 0) tNil)) (gName 1))
  (tSeq (tAsg (tCall s_law_program [] E0 (tCons (tVar 1) tNil)) (gName 2))
  (tSeq (tAsg (tCall s_law_grounds [] E0 (tCons (tVar 2) tNil)) (gName 3))
  (tSeq (tAsg (tLstN tNil) (gName 4))
  (tSeq (tFor (iSeq K (tOp (rAddG K) (tIxG K w (tVar 2) (tC (.int 0))) (tTupN (tCons (tTupN (tCons (tC (.str "")) (tCons (tTupN tNil) (tCons (tIxG K w (tVar 2) (tC (.int 1))) tNil)))) tNil)))) (gTup K 3 (gCons (gName 5) (gCons (gName 6) (gCons (gName 7) gNil)))) (tAsg (tOp (rAddG K) (tVar 4) (tOp rRepG (tLstN (tCons (tCB (rLenG K) (tCons (tVar 6) tNil)) tNil)) (tCall s_law_many [] E0 (tCons (tVar 7) tNil)))) (gName 4)))
  (tSeq (tFor (iRng1 (tCons (tCB rMax2 (tCons (tC (.int 3)) (tCons (tCB rMin2 (tCons (tC (.int 20)) (tCons (tCB (rLenG K) (tCons (tVar 0) tNil)) tNil))) tNil))) tNil)) (gName 8) (tSeq (tPar 9 10 (tCons (tMake (He.ga K "Nodes") s_Nodes___init__ [] E0 (tCons (tVar 2) tNil)) (tCons (tLstN (tCons (tLstN tNil) (tCons (tDNewKN) (tCons (tC (.bl false)) tNil)))) tNil)))
  (tSeq (tAsg (tIxG K w (tIxG K w (tIxG K w (tVar 3) (tC (.int 1))) (tC (.str ""))) (tC (.int 0))) (gName 11))
  (tSeq (tAsg (tOp (rAddG K) (tC (.int 1)) (tCall s_law_draw [] E0 (tCons (tVar 1) (tCons (tCall s_law_many [] E0 (tCons (tIxG K w (tVar 2) (tC (.int 1))) tNil)) tNil)))) (gName 12))
  (tSeq (tFor (iRng1 (tCons (tVar 12) tNil)) (gName 13) (tIfS (tTest (tOp (rNeG K) (tMeth (He.ga K "Nodes") "node" s_Nodes_node [] E0 (tVar 9) (tCons (tOp (rAddG K) (tVar 11) (tVar 13)) (tCons (tTupN tNil) tNil))) (tCall s_law_node [] E0 (tCons (tVar 10) (tCons (tOp (rAddG K) (tVar 11) (tVar 13)) (tCons (tTupN tNil) tNil)))))) (tRet (tC (.bl false))) tNext))
  (tSeq (tAsg (tCall s_law_draw [] E0 (tCons (tVar 1) (tCons (tCB (rLenG K) (tCons (tVar 4) tNil)) tNil))) (gName 14))
  (tSeq (tAsg (tCB (rTupleG K) (tCons (tLc (iRng1 (tCons (tIxG K w (tVar 4) (tVar 14)) tNil)) (gName 16) tYes (tCall s_law_draw [] E0 (tCons (tVar 1) (tCons (tVar 12) tNil))) [16]) tNil)) (gName 15))
  (tSeq (tAsg (tMeth (He.ga K "Nodes") "node" s_Nodes_node [] E0 (tVar 9) (tCons (tVar 14) (tCons (tVar 15) tNil))) (gName 17))
  (tSeq (tAsg (tCall s_law_node [] E0 (tCons (tVar 10) (tCons (tVar 14) (tCons (tVar 15) tNil)))) (gName 18))
  (tSeq (tAsg (tLstN tNil) (gName 19))
  (tFor (iRng1 (tCons (tC (.int 4)) tNil)) (gName 20) (tSeq (tAsg (tCB (rListG K) (tCons (tVar 19) tNil)) (gName 21))
  (tSeq (tAsg (tCall s_law_behind [] E0 (tCons (tVar 3) (tCons (tVar 10) (tCons (tVar 18) (tCons (tVar 19) tNil))))) (gName 22))
  (tSeq (tIfS (tOr (tNot (tTru K (tCall s_law_same [] E0 (tCons (tVar 9) (tCons (tVar 10) (tCons (tCall s_behind [] E0 (tCons (tVar 9) (tCons (tVar 17) (tCons (tVar 21) tNil)))) (tCons (tVar 22) tNil))))))) (tTest (tOp (rNeG K) (tVar 21) (tVar 19)))) (tRet (tC (.bl false))) tNext)
  (tSeq (tIfS (tTest (tOp (rInG K w true) (tIxG K w (tVar 22) (tC (.int 0))) (tTupN (tCons (tC (.str "need")) (tCons (tC (.str "call")) tNil))))) tBreak tNext)
  (tDrop (tBM K "list" rAppendG (tVar 19) (tCons (tCall s_law_wish [] E0 (tCons (tVar 1) (tCons (tVar 2) (tCons (tIxG K w (tIxG K w (tIxG K w (tIxG K w (tVar 3) (tC (.int 0))) (tVar 14)) (tC (.int 0))) (tC (.int 0))) (tCons (tVar 12) tNil))))) tNil))))))))))))))))))
  (tRet (tC (.bl true)))))))))
/-! ### the draws -/
theorem pen_ne {H : Hp} {pen L : Addr} {ns : List Int} {i j : Int} (hp : H pen = some (.lst [.ref L, .int i, .int j])) (hL : H L = some (.lst (ns.map V.int))) : L ≠ pen := by
  rintro rfl
  rw [hL] at hp
  have := congrArg (fun o => match o with | some (HO.lst (x :: _)) => (match x with | .ref _ => true | _ => false) | _ => false) hp
  cases ns <;> simp at this
/-- a pen: the script's list L, the turn, what is left of a great number -/
def PenAt (H : Hp) (pen L : Addr) : Prop := ∃ (ns : List Int) (at_ rest : Int), H pen = some (.lst [.ref L, .int at_, .int rest]) ∧ H L = some (.lst (ns.map V.int)) ∧ 0 ≤ at_ ∧ 0 ≤ rest ∧ ns.length ≤ 63
section
variable {H H' : Hp} {pen L d : Addr}
theorem PenAt.same (h : PenAt H pen L) (s : Same H H') : PenAt H' pen L := by
  obtain ⟨ns, a, r, hp, hL, x⟩ := h
  exact ⟨ns, a, r, s _ _ hp, s _ _ hL, x⟩
/-- a pen stays where another object changes -/
theorem PenAt.chg (h : PenAt H pen L) (c : Chg d H H') (n1 : pen ≠ d) (n2 : L ≠ d) : PenAt H' pen L := by
  obtain ⟨ns, a, r, hp, hL, x⟩ := h
  exact ⟨ns, a, r, c _ _ n1 hp, c _ _ n2 hL, x⟩
theorem PenAt.ne (h : PenAt H pen L) (hd : H d = none) : pen ≠ d ∧ L ≠ d := by
  obtain ⟨ns, a, r, hp, hL, x⟩ := h
  exact ⟨ne_of_none hp hd, ne_of_none hL hd⟩
end
def spDraw : Sp := fun vs H Q _ => ∃ (pen L : Addr) (many : Int), vs = [.ref pen, .int many] ∧ PenAt H pen L ∧ 0 < many ∧ many.natAbs < 2 ^ 250 ∧
  ∀ (v : Int) (H' : Hp), 0 ≤ v → v < many → PenAt H' pen L → Chg pen H H' → Q (.int v) H'
theorem g_draw {H : Hp} {Q : VK} {E : XK} {pen L : Addr} {many : Int} (h : PenAt H pen L) (h0 : 0 < many) (h1 : many.natAbs < 2 ^ 250) (q : ∀ (v : Int) (H' : Hp), 0 ≤ v → v < many → PenAt H' pen L → Chg pen H H' → Q (.int v) H') :
    spDraw ([.ref pen, .int many] ++ []) H Q E := ⟨pen, L, many, rfl, h, h0, h1, q⟩
theorem pure_draw {K : PySem.W.Frag} {w : World} : PureOk 2 spDraw (t_law_draw K w) 7 := by
  refine ⟨fun vs H Q E ⟨pen, L, many, e, _⟩ => by rw [e]; rfl, ?_⟩
  rintro vs H Q E ⟨pen, L, many, rfl, ⟨ns, at_, rest, hp, hL, h0, h1, hl⟩, hm, hmb, q'⟩
  have hne : L ≠ pen := pen_ne hp hL
  have q : ∀ (v a' r' : Int) (H' : Hp), 0 ≤ v → v < many → 0 ≤ a' → 0 ≤ r' → H' pen = some (.lst [.ref L, .int a', .int r']) → Chg pen H H' → Q (.int v) H' :=
    fun v a' r' H' v0 v1 a0 r0 e c => q' v H' v0 v1 ⟨ns, a', r', e, c L _ hne hL, a0, r0, hl⟩ c
  have hdw : ∀ x, CDivW x many := fun x => wide_div hm hmb (by decide) (by decide)
  have mod0 : ∀ x : Int, 0 ≤ x % many := fun x => Int.emod_nonneg x (Int.ne_of_gt hm)
  have mod1 : ∀ x : Int, x % many < many := fun x => Int.emod_lt_of_pos x hm
  show t_law_draw K w _ [some (.ref pen), some (.int many), none, none, none, none, none] H
  unfold t_law_draw
  walk_at "go"
  refine g_ite (fun hr => ?_) (fun _ => ?_)
  · walk_at "go"
    refine g_modI hm ?_
    walk_at "go"
    refine g_divI (hdw _) ?_
    walk_at "go"
    refine g_setL hp rfl fun H' e1 c1 => ?_
    walk_at "go"
    exact q _ at_ (rest / many) H' (mod0 _) (mod1 _) h0 (Int.ediv_nonneg h1 (Int.le_of_lt hm)) e1 c1
  · walk_at "go"
    refine g_setL hp rfl fun H1 e1 c1 => ?_
    have hL1 := c1 L _ hne hL
    walk_at "go"
    intro p H2 np e2 s2
    have hL2 := s2 _ _ hL1
    have hp2 := s2 _ _ e1
    walk_at "go"
    refine g_addL hL2 e2 (by show _ ≤ 16777216; simp; omega) fun p' H3 np' e3 s3 => ?_
    have hL3 := s3 _ _ hL2
    have hp3 := s3 _ _ hp2
    walk_at "go"
    refine g_lenL (.of hL3) ?_
    walk_at "go"
    refine g_modI (by omega) ?_
    have hat : ∃ c : Int, atI (List.map V.int ns ++ [V.int 7]) (at_ % max 1 ((List.map V.int ns).length : Int)) = some (.int c) := by
      have a0 := Int.emod_nonneg at_ (b := max 1 ((List.map V.int ns).length : Int)) (by omega)
      have a1 := Int.emod_lt_of_pos at_ (b := max 1 ((List.map V.int ns).length : Int)) (by omega)
      obtain ⟨v, h1, h2, _⟩ := atI_in (xs := List.map V.int ns ++ [V.int 7]) a0 (by rw [List.length_append, List.length_singleton]; omega)
      rw [List.mem_append, List.mem_map] at h2
      rcases h2 with ⟨c, _, rfl⟩ | h2
      · exact ⟨c, h1⟩
      · rw [List.mem_singleton] at h2
        exact ⟨7, h2 ▸ h1⟩
    obtain ⟨c, hc⟩ := hat
    refine g_ixL (.of e3) hc ?_
    walk_at "go"
    refine g_lenL (.of hL3) ?_
    walk_at "go"
    refine g_cut (B := ?B) ?f ?b
    case f =>
      intro tail
      refine g_ite (fun _ => ?_) (fun _ => ?_)
      · walk_at "go"
        refine g_powI ⟨by decide, by decide, by decide⟩ ?_
        walk_at "go"
        refine g_ite (fun hbig => ?_) (fun _ => ?_)
        · walk_at "go"
          refine g_divI (hdw _) ?_
          walk_at "go"
          refine g_setL hp3 rfl fun H4 e4 c4 => ?_
          walk_at "go"
          refine g_modI hm ?_
          exact q _ (at_ + 1) (c.natAbs / many) H4 (mod0 _) (mod1 _) (by omega) (Int.ediv_nonneg (by omega) (Int.le_of_lt hm)) e4 ((c1.trans (.same s2)).trans ((Chg.same s3).trans c4))
        · exact tail.out
      · refine g_F rfl ?_
        exact tail.out
    case b =>
      walk_at "go"
      intro p4 H4 np4 e4 s4
      walk_at "go"
      refine g_modI (by decide) ?_
      obtain ⟨pr, hpr, hmem⟩ : ∃ pr : Int, atI [V.int 2147483647, V.int 2147483629, V.int 2147483587, V.int 2147483579, V.int 2147483563, V.int 2147483549, V.int 2147483543] (at_ % 7) = some (.int pr) ∧ 0 < pr ∧ pr < 2 ^ 31 := by
        obtain ⟨v, h1, h2, _⟩ := atI_in (xs := [V.int 2147483647, V.int 2147483629, V.int 2147483587, V.int 2147483579, V.int 2147483563, V.int 2147483549, V.int 2147483543]) (Int.emod_nonneg at_ (by decide)) (Int.emod_lt_of_pos at_ (b := 7) (by decide))
        simp only [List.mem_cons, List.not_mem_nil, or_false] at h2
        rcases h2 with rfl | rfl | rfl | rfl | rfl | rfl | rfl <;> exact ⟨_, h1, by decide, by decide⟩
      refine g_ixL (.of e4) hpr ?_
      walk_at "go"
      refine g_modI (by decide) ?_
      walk_at "go"
      refine g_mulI (.inl ⟨by decide, by decide⟩) ?_
      walk_at "go"
      refine g_mulI (.inr ⟨by decide, by decide⟩) ?_
      walk_at "go"
      refine g_modI hmem.1 ?_
      have x0 := Int.emod_nonneg ((c % 2147483497 + 69621 * at_ + 13) * 48271) (Int.ne_of_gt hmem.1)
      have x1 := Int.emod_lt_of_pos ((c % 2147483497 + 69621 * at_ + 13) * 48271) hmem.1
      generalize (c % 2147483497 + 69621 * at_ + 13) * 48271 % pr = x at x0 x1
      walk_at "go"
      refine g_mulI (.inl ⟨by omega, by omega⟩) ?_
      walk_at "go"
      refine g_mulI (.inl ⟨by decide, by decide⟩) ?_
      walk_at "go"
      refine g_modI (by decide) ?_
      have y0 := Int.emod_nonneg (x * x + 40692 * x + at_) (b := 2147483489) (by decide)
      have y1 := Int.emod_lt_of_pos (x * x + 40692 * x + at_) (b := 2147483489) (by decide)
      generalize (x * x + 40692 * x + at_) % 2147483489 = y at y0 y1
      walk_at "go"
      refine g_mulI (.inl ⟨by omega, by omega⟩) ?_
      walk_at "go"
      refine g_modI (by decide) ?_
      have z0 := Int.emod_nonneg (y * 16807) (b := 2147483477) (by decide)
      have z1 := Int.emod_lt_of_pos (y * 16807) (b := 2147483477) (by decide)
      generalize y * 16807 % 2147483477 = z at z0 z1
      have fin : ∀ u : Int, Q (.int (u / 32 % many)) H4 := fun u =>
        q _ (at_ + 1) rest H4 (mod0 _) (mod1 _) (by omega) h1 (s4 _ _ hp3) ((c1.trans (.same s2)).trans ((Chg.same s3).trans (.same s4)))
      walk_at "go"
      refine g_powI ⟨by decide, by decide, by decide⟩ ?_
      walk_at "go"
      refine g_ite (fun _ => ?_) (fun _ => ?_)
      · walk_at "go"
        refine g_powI ⟨by decide, by decide, by omega⟩ ?_
        walk_at "go"
        refine g_divI ⟨by decide, by decide⟩ ?_
        walk_at "go"
        exact g_modI hm (fin _)
      · walk_at "go"
        refine g_divI ⟨by decide, by decide⟩ ?_
        walk_at "go"
        exact g_modI hm (fin _)


/-! ### names -/
open SX in
theorem letters_eq : (Str.ofString "abcdefghijklmnopqrstuvwxyz").cps.toList = (List.range 26).map (97 + ·) := by decide +kernel
theorem letter_at {i : Int} (h0 : 0 ≤ i) (h1 : i < 26) : atI (Str.ofString "abcdefghijklmnopqrstuvwxyz").cps.toList i = some (97 + i.toNat) := by
  refine atI_of h0 ?_
  rw [letters_eq, List.getElem?_map, List.getElem?_range (by omega)]
  rfl
theorem letters_len : (Str.ofString "abcdefghijklmnopqrstuvwxyz").length ≤ sizeLine := by
  show (Str.ofString "abcdefghijklmnopqrstuvwxyz").cps.size ≤ _
  rw [← Array.length_toList, letters_eq, List.length_map, List.length_range]
  show 26 ≤ 16777216
  omega
theorem sum_ones : ∀ cs : List Nat, ((cs.map fun c => SX.S [c]).map (·.length)).sum = cs.length
  | [] => rfl
  | c :: cs => by
    rw [List.map_cons, List.map_cons, List.sum_cons, sum_ones cs, SX.S_len, List.length_cons, List.length_cons, List.length_nil]
    omega
/-- the k-th name: the word with another letter at a place -/
def nameK (cs : List Nat) (at_ first by_ k : Nat) : Str := SX.S (cs.take at_ ++ [97 + (first + by_ * k) % 26] ++ cs.drop (at_ + 1))
theorem cutS_to (cs : List Nat) (n : Nat) (h : n ≤ cs.length) : cutS (SX.S cs) none (some (n : Int)) = SX.S (cs.take n) := by
  unfold cutS
  rw [HT.sIx_none, HT.sIx_nat, SX.S_len, Nat.min_eq_left h]
  rfl
theorem cutS_from (cs : List Nat) (n : Nat) (h : n ≤ cs.length) : cutS (SX.S cs) (some (n : Int)) none = SX.S (cs.drop n) := by
  unfold cutS
  rw [HT.sIx_none, HT.sIx_nat, SX.S_len, Nat.min_eq_left h]
  show SX.S ((cs.drop n).take (cs.length - n)) = _
  rw [List.take_of_length_le (by rw [List.length_drop]; omega)]
theorem nameK_is {cs : List Nat} {at_ first by_ k : Nat} (h : at_ < cs.length) (h8 : cs.length ≤ 8) (hc : ∀ c ∈ cs, 97 ≤ c ∧ c < 123) : isName (nameK cs at_ first by_ k) := by
  refine ⟨?_, ?_, ?_⟩
  · rw [nameK, SX.S_len]
    simp only [List.length_append, List.length_take, List.length_drop, List.length_singleton]
    omega
  · rw [nameK, SX.S_len]
    simp only [List.length_append, List.length_take, List.length_drop, List.length_singleton]
    omega
  · intro c hm
    have hm' : c ∈ cs.take at_ ++ [97 + (first + by_ * k) % 26] ++ cs.drop (at_ + 1) := hm
    simp only [List.mem_append, List.mem_singleton] at hm'
    rcases hm' with (hm' | rfl) | hm'
    · exact hc c (List.mem_of_mem_take hm')
    · omega
    · exact hc c (List.mem_of_mem_drop hm')
theorem nameK_inj {cs : List Nat} {at_ first by_ j k : Nat} (h : at_ < cs.length) (hb : by_ ∈ [1, 3, 5, 7, 9, 11]) (hj : j < 26) (hk : k < 26) (e : nameK cs at_ first by_ j = nameK cs at_ first by_ k) : j = k := by
  have e1 := SX.S_inj e
  rw [List.append_assoc, List.append_assoc] at e1
  have e2 := List.append_cancel_left e1
  simp only [List.singleton_append, List.cons.injEq, and_true] at e2
  simp only [List.mem_cons, List.not_mem_nil, or_false] at hb
  rcases hb with rfl | rfl | rfl | rfl | rfl | rfl <;> omega
def spNames : Sp := fun vs H Q _ => ∃ (pen L : Addr) (many : Int), vs = [.ref pen, .int many] ∧ PenAt H pen L ∧ 0 ≤ many ∧ many ≤ 26 ∧
  ∀ (d : Addr) (ss : List Str) (H' : Hp), (ss.length : Int) = many → (∀ s ∈ ss, isName s) → ss.Nodup → H d = none → H' d = some (.lst (ss.map V.str)) → PenAt H' pen L → Chg pen H H' → Q (.ref d) H'
theorem pure_names {K : PySem.W.Frag} {w : World} : PureOk 2 spNames (t_law_names K w spDraw) 8 := by
  refine ⟨fun vs H Q E ⟨pen, L, many, e, _⟩ => by rw [e]; rfl, ?_⟩
  rintro vs H Q E ⟨pen, L, many, rfl, hP, hm0, hm1, q⟩
  show t_law_names K w _ _ [some (.ref pen), some (.int many), none, none, none, none, none, none] H
  unfold t_law_names
  walk_at "go"
  refine g_draw hP (by decide) (by decide) fun n H1 n0 n1 hP1 c1 => ?_
  walk_at "go"
  refine g_isrng (by omega) (by omega) fun D hD => ?_
  refine lc_any (1 + n).toNat (fun i acc H' => ∃ cs : List Nat, acc = (cs.map fun c => SX.S [c]).map V.str ∧ cs.length = i ∧ (∀ c ∈ cs, 97 ≤ c ∧ c < 123) ∧ PenAt H' pen L ∧ Chg pen H1 H') hD
    (fun H' _ s => ⟨[], rfl, rfl, by simp, hP1.same s, .same s⟩) (fun i acc H' hi _ => hi) (fun acc H' _ => Nat.le_refl _) ?_ ?_
  · rintro i x acc H2 _ hi hl ⟨cs, rfl, hc, hcs, hP2, c2⟩ hd2 ⟨rfl, rfl⟩
    walk_at "go"
    refine ⟨rfl, ?_⟩
    walk_at "go"
    refine g_T rfl ?_
    walk_at "go"
    refine g_draw hP2 (by decide) (by decide) fun v H3 v0 v1 hP3 c3 => ?_
    refine g_ixS letters_len (letter_at v0 v1) ?_
    have hn := hP1.ne hD
    refine lc_step (c3 _ _ hn.1.symm hd2) hl (by show _ < 16777216; omega) fun H5 e5 c5 => ?_
    refine ⟨cs ++ [97 + v.toNat], by simp, by simp [hc], ?_, hP3.chg c5 hn.1 hn.2, ?_⟩
    · intro c hm
      rw [List.mem_append, List.mem_singleton] at hm
      rcases hm with hm | rfl
      · exact hcs c hm
      · omega
    · exact fun b o hb e => c5 b o (ne_of_none e hD) (c3 b o hb (c2 b o hb e))
  · rintro acc H2 hd2 ⟨cs, rfl, hc, hcs, hP2, c2⟩
    have hsum := sum_ones cs
    refine ⟨_, D, cs.map fun c => SX.S [c], rfl, rfl, .inl (.of hd2), ?_, ?_⟩
    · rw [hsum, List.length_map]
      show _ + _ * 0 ≤ _
      omega
    have ej : Txt.join (Str.ofString "") (cs.map fun c => SX.S [c]) = SX.S cs := by
      have e0 : Str.ofString "" = SX.S [] := by decide +kernel
      rw [e0, show (cs.map fun c => SX.S [c]) = (cs.map fun c => [c]).map SX.S from by rw [List.map_map]; rfl, SX.join_S]
      congr 1
      have : ∀ l : List Nat, TL.joinL [] (l.map fun c => [c]) = l := by
        intro l
        induction l with
        | nil => rfl
        | cons a l ih =>
          cases l with
          | nil => rfl
          | cons b l =>
            show [a] ++ ([] ++ TL.joinL [] ((b :: l).map fun c => [c])) = _
            rw [ih]
            rfl
      exact this cs
    rw [ej]
    walk_at "go"
    refine g_lenS (by rw [SX.S_len]; show _ ≤ 16777216; omega) ?_
    rw [SX.S_len]
    walk_at "go"
    refine g_draw (many := (cs.length : Int)) hP2 (by omega) (by omega) fun v H3 v0 v1 hP3 c3 => ?_
    walk_at "go"
    refine g_draw hP3 (by decide) (by decide) fun f H4 f0 f1 hP4 c4 => ?_
    walk_at "go"
    intro p H5 np e5 s5
    have hP5 := hP4.same s5
    walk_at "go"
    refine g_draw hP5 (by decide) (by decide) fun y H6 y0 y1 hP6 c6 => ?_
    obtain ⟨by_, hby, hbm⟩ : ∃ by_ : Nat, atI [V.int 1, V.int 3, V.int 5, V.int 7, V.int 9, V.int 11] y = some (.int by_) ∧ by_ ∈ [1, 3, 5, 7, 9, 11] := by
      obtain ⟨v, h1, h2, _⟩ := atI_in (xs := [V.int 1, V.int 3, V.int 5, V.int 7, V.int 9, V.int 11]) y0 y1
      simp only [List.mem_cons, List.not_mem_nil, or_false] at h2
      rcases h2 with rfl | rfl | rfl | rfl | rfl | rfl <;> first | exact ⟨1, h1, by decide⟩ | exact ⟨3, h1, by decide⟩ | exact ⟨5, h1, by decide⟩ | exact ⟨7, h1, by decide⟩ | exact ⟨9, h1, by decide⟩ | exact ⟨11, h1, by decide⟩
    have npen : p ≠ pen := fun e => (hP4.ne np).1 e.symm
    refine g_ixL (.of (c6 _ _ npen e5)) hby ?_
    walk_at "go"
    refine g_isrng (by omega) (by omega) fun D2 hD2 => ?_
    have hn2 := hP6.ne hD2
    have hlen : (SX.S cs).length ≤ sizeLine := by rw [SX.S_len]; show _ ≤ 16777216; omega
    refine lc_any many.toNat (fun i acc H' => acc = ((List.range i).map fun k => nameK cs v.toNat f.toNat by_ k).map V.str ∧ PenAt H' pen L ∧ Chg pen H6 H') hD2
      (fun H' _ s => ⟨rfl, hP6.same s, .same s⟩) (fun i acc H' hi _ => hi) (fun acc H' _ => Nat.le_refl _) ?_ ?_
    · rintro i x acc H7 _ hi hl ⟨rfl, hP7, c7⟩ hd7 ⟨rfl, rfl⟩
      walk_at "go"
      refine ⟨rfl, ?_⟩
      walk_at "go"
      refine g_T rfl ?_
      walk_at "go"
      refine g_slS hlen ?_
      walk_at "go"
      refine g_mulI (.inl ⟨by omega, by simp only [List.mem_cons, List.not_mem_nil, or_false] at hbm; omega⟩) ?_
      walk_at "go"
      refine g_modI (by decide) ?_
      refine g_ixS letters_len (letter_at (Int.emod_nonneg _ (by decide)) (Int.emod_lt_of_pos _ (by decide))) ?_
      refine g_addS (Nat.le_trans (Nat.add_le_add (cutS_length _ _ _) (Nat.le_refl _)) (by rw [SX.S_len]; show cs.length + 1 ≤ 16777216; omega)) ?_
      walk_at "go"
      refine g_slS hlen ?_
      have ek : (cutS (SX.S cs) none (some v) ++ (⟨#[97 + ((f + (by_ : Int) * (0 + (i : Int))) % 26).toNat]⟩ : Str)) ++ cutS (SX.S cs) (some (v + 1)) none = nameK cs v.toNat f.toNat by_ i := by
        have ev : v = (v.toNat : Int) := by omega
        have ev1 : v + 1 = ((v.toNat + 1 : Nat) : Int) := by omega
        rw [ev1, cutS_from _ _ (by omega)]
        rw [show cutS (SX.S cs) none (some v) = SX.S (cs.take v.toNat) from by rw (occs := .pos [1]) [ev]; exact cutS_to _ _ (by omega)]
        have e3 : ((f + (by_ : Int) * (0 + (i : Int))) % 26).toNat = (f.toNat + by_ * i) % 26 := by
          have : f + (by_ : Int) * (0 + (i : Int)) = ((f.toNat + by_ * i : Nat) : Int) := by
            rw [Int.natCast_add, Int.natCast_mul, Int.toNat_of_nonneg f0, Int.zero_add]
          rw [this]
          omega
        rw [e3]
        show SX.S _ ++ SX.S [_] ++ SX.S _ = _
        rw [SX.S_cat, SX.S_cat]
        rfl
      refine g_addS ?_ ?_
      · show (cutS (SX.S cs) none (some v) ++ _ : Str).length + (cutS (SX.S cs) (some (v + 1)) none).length ≤ 16777216
        have l1 := cutS_length (SX.S cs) none (some v)
        have l2 := cutS_length (SX.S cs) (some (v + 1)) none
        have l3 : ∀ a b : Str, (a ++ b).length = a.length + b.length := fun a b => by rw [← SX.S_tl a, ← SX.S_tl b, SX.S_cat, SX.S_len, SX.S_len, SX.S_len, List.length_append]
        have l0 := SX.S_len cs
        rw [l3]
        show _ + 1 + _ ≤ _
        omega
      · rw [ek]
        refine lc_step hd7 hl (by show _ < 16777216; omega) fun H8 e8 c8 => ?_
        exact ⟨by rw [List.range_succ]; simp, hP7.chg c8 hn2.1 hn2.2, fun b o hb e => c8 b o (ne_of_none e hD2) (c7 b o hb e)⟩
    · rintro acc H7 hd7 ⟨rfl, hP7, c7⟩
      have hfree : H D2 = none := by
        cases e : H D2 with
        | none => rfl
        | some o =>
          have : H6 D2 = some o := c6 _ _ hn2.1.symm (s5 _ _ (c4 _ _ hn2.1.symm (c3 _ _ hn2.1.symm (c2 _ _ hn2.1.symm (c1 _ _ hn2.1.symm e)))))
          rw [hD2] at this
          cases this
      refine q D2 _ H7 (by rw [List.length_map, List.length_range]; omega) ?_ ?_ hfree hd7 hP7 (fun b o hb e => c7 b o hb (c6 b o hb (s5 b o (c4 b o hb (c3 b o hb (c2 b o hb (c1 b o hb e)))))))
      · intro s hs
        obtain ⟨k, hk, rfl⟩ := List.mem_map.mp hs
        exact nameK_is (by omega) (by omega) hcs
      · refine List.pairwise_map.mpr (List.Pairwise.imp_of_mem ?_ List.nodup_range)
        intro a b ha hb ne e
        rw [List.mem_range] at ha hb
        exact ne (nameK_inj (by omega) hbm (by omega) (by omega) e)

/-! ### pens, numbers -/
def spPen (K : PySem.W.Frag) : Sp := fun vs H Q _ => ∃ (a : Addr) (ns : List Int), vs = [.ref a] ∧ SqL K H a (ns.map V.int) ∧ ns.length ≤ 63 ∧ ∀ (pen L : Addr) (H' : Hp), H pen = none → H L = none → PenAt H' pen L → Same H H' → Q (.ref pen) H'
theorem pure_pen {K : PySem.W.Frag} {w : World} : PureOk 1 (spPen K) (t_law_pen K w) 1 := by
  refine ⟨fun vs H Q E ⟨a, ns, e, _⟩ => by rw [e]; rfl, ?_⟩
  rintro vs H Q E ⟨a, ns, rfl, hS, hl, q⟩
  show t_law_pen K w _ [some (.ref a)] H
  unfold t_law_pen
  walk_at "go"
  refine g_slL hS fun p1 H1 n1 e1 s1 => ?_
  walk_at "go"
  refine g_listL (.of e1) fun p2 H2 n2 e2 s2 => ?_
  walk_at "go"
  intro p3 H3 n3 e3 s3
  have ec : cutV (ns.map V.int) none (some 63) = ns.map V.int := by
    unfold cutV
    rw [HT.sIx_none, show (63 : Int) = ((63 : Nat) : Int) from rfl, HT.sIx_nat, List.length_map, Nat.min_eq_right hl]
    show (ns.map V.int).take ns.length = _
    rw [List.take_of_length_le (by rw [List.length_map]; exact Nat.le_refl _)]
  rw [ec] at e2
  refine q p3 p2 H3 (s1.free (s2.free n3)) (s1.free n2) ⟨ns, 0, 0, e3, s3 _ _ e2, by decide, by decide, hl⟩ (s1.trans (s2.trans s3))

def spNumber : Sp := fun vs H Q _ => ∃ (pen L : Addr), vs = [.ref pen] ∧ PenAt H pen L ∧ ∀ (n : Int) (H' : Hp), n.natAbs < 10 ^ 60 → PenAt H' pen L → Chg pen H H' → Q (.int n) H'
theorem pure_number {K : PySem.W.Frag} {w : World} : PureOk 1 spNumber (t_law_number K w spDraw) 2 := by
  refine ⟨fun vs H Q E ⟨pen, L, e, _⟩ => by rw [e]; rfl, ?_⟩
  rintro vs H Q E ⟨pen, L, rfl, hP, q⟩
  show t_law_number K w spDraw _ [some (.ref pen), none] H
  unfold t_law_number
  walk_at "go"
  refine g_draw hP (by decide) (by decide) fun way H1 w0 w1 hP1 c1 => ?_
  walk_at "go"
  refine g_ite (fun _ => ?_) (fun h8 => ?_)
  · walk_at "go"
    refine g_powI ⟨by decide, by decide, by decide⟩ ?_
    refine g_mulI (.inl ⟨by decide, by decide⟩) ?_
    walk_at "go"
    refine g_draw hP1 (by decide) (by decide) fun v H2 v0 v1 hP2 c2 => ?_
    walk_at "go"
    refine g_powI ⟨by decide, by decide, by decide⟩ ?_
    walk_at "go"
    refine q _ H2 ?_ hP2 (c1.trans c2)
    have e60 : (10 : Int) ^ (Int.toNat 60) = 10 ^ 60 := rfl
    rw [e60] at v1 ⊢
    omega
  · walk_at "go"
    refine g_ite (fun _ => ?_) (fun h7 => ?_)
    · walk_at "go"
      refine g_powI ⟨by decide, by decide, by decide⟩ ?_
      refine g_mulI (.inl ⟨by decide, by decide⟩) ?_
      walk_at "go"
      refine g_draw hP1 (by decide) (by decide) fun v H2 v0 v1 hP2 c2 => ?_
      walk_at "go"
      refine g_powI ⟨by decide, by decide, by decide⟩ ?_
      walk_at "go"
      refine q _ H2 ?_ hP2 (c1.trans c2)
      have e31 : (10 : Int) ^ (Int.toNat 31) = 10 ^ 31 := rfl
      rw [e31] at v1 ⊢
      omega
    · walk_at "go"
      refine g_draw hP1 (by decide) (by decide) fun v H2 v0 v1 hP2 c2 => ?_
      walk_at "go"
      intro p H3 np e3 s3
      walk_at "go"
      have h8' := of_decide_eq_false h8
      have h7' := of_decide_eq_false h7
      obtain ⟨u, hu, hm, _⟩ := atI_in (xs := [V.int 0, V.int 0, V.int 0, V.int 1, V.int 2, V.int 4, V.int 0]) w0 (by show way < 7; omega)
      have hu' : ∃ z : Int, u = .int z ∧ 0 ≤ z ∧ z ≤ 4 := by
        simp only [List.mem_cons, List.not_mem_nil, or_false] at hm
        rcases hm with rfl | rfl | rfl | rfl | rfl | rfl | rfl <;> exact ⟨_, rfl, by decide, by decide⟩
      obtain ⟨z, rfl, z0, z1⟩ := hu'
      refine g_ixL (.of e3) hu ?_
      walk_at "go"
      exact q _ H3 (by omega) (hP2.same s3) (c1.trans (c2.trans (.same s3)))

/-! ### drawing parts: the state -/
/-- what may change while a part is drawn -/
structure Fix (pen left stock b : Addr) : Prop where
  p : b ≠ pen
  l : b ≠ left
  s : b ≠ stock
def Chg3 (pen left stock : Addr) (H H' : Hp) : Prop := ∀ b o, Fix pen left stock b → H b = some o → H' b = some o
structure RoomAt (H : Hp) (pen L left stock : Addr) (n : Int) (st : List Str) : Prop where
  pe : PenAt H pen L
  le : H left = some (.lst [.int n])
  sk : H stock = some (.lst (st.map V.str))
  lp : left ≠ pen
  lL : left ≠ L
  sp : stock ≠ pen
  sL : stock ≠ L
  ls : left ≠ stock
section
variable {H H' H1 : Hp} {pen L left stock b : Addr} {n : Int} {st : List Str}
theorem Chg3.refl : Chg3 pen left stock H H := fun _ _ _ e => e
theorem Chg3.trans (h : Chg3 pen left stock H H1) (h' : Chg3 pen left stock H1 H') : Chg3 pen left stock H H' := fun b o f e => h' b o f (h b o f e)
theorem Chg3.ofp (h : Chg pen H H') : Chg3 pen left stock H H' := fun b o f e => h b o f.p e
theorem Chg3.ofl (h : Chg left H H') : Chg3 pen left stock H H' := fun b o f e => h b o f.l e
theorem Chg3.ofs (h : Chg stock H H') : Chg3 pen left stock H H' := fun b o f e => h b o f.s e
theorem Chg3.same (h : Same H H') : Chg3 pen left stock H H' := fun b o _ e => h b o e
theorem RoomAt.new (r : RoomAt H pen L left stock n st) (hb : H b = none) : Fix pen left stock b :=
  ⟨fun e => (by obtain ⟨ns, a, x, hp, _⟩ := r.pe; rw [e, hp] at hb; cases hb), fun e => (by have := r.le; rw [← e, hb] at this; cases this), fun e => (by have := r.sk; rw [← e, hb] at this; cases this)⟩
theorem RoomAt.same (r : RoomAt H pen L left stock n st) (s : Same H H') : RoomAt H' pen L left stock n st :=
  ⟨r.pe.same s, s _ _ r.le, s _ _ r.sk, r.lp, r.lL, r.sp, r.sL, r.ls⟩
theorem RoomAt.draw (r : RoomAt H pen L left stock n st) (h : PenAt H' pen L) (c : Chg pen H H') : RoomAt H' pen L left stock n st :=
  ⟨h, c _ _ r.lp r.le, c _ _ r.sp r.sk, r.lp, r.lL, r.sp, r.sL, r.ls⟩
theorem RoomAt.setLeft {m : Int} (r : RoomAt H pen L left stock n st) (h : H' left = some (.lst [.int m])) (c : Chg left H H') : RoomAt H' pen L left stock m st :=
  ⟨r.pe.chg c r.lp.symm r.lL.symm, h, c _ _ r.ls.symm r.sk, r.lp, r.lL, r.sp, r.sL, r.ls⟩
theorem RoomAt.setStock {su : List Str} (r : RoomAt H pen L left stock n st) (h : H' stock = some (.lst (su.map V.str))) (c : Chg stock H H') : RoomAt H' pen L left stock n su :=
  ⟨r.pe.chg c r.sp.symm r.sL.symm, c _ _ r.ls r.le, h, r.lp, r.lL, r.sp, r.sL, r.ls⟩
/-- another object changes -/
theorem RoomAt.chg (r : RoomAt H pen L left stock n st) (c : Chg b H H') (f : Fix pen left stock b) (fL : L ≠ b) : RoomAt H' pen L left stock n st :=
  ⟨r.pe.chg c f.p.symm fL, c _ _ f.l.symm r.le, c _ _ f.s.symm r.sk, r.lp, r.lL, r.sp, r.sL, r.ls⟩
theorem RoomAt.tk {m : Int} {su : List Str} (r : RoomAt H pen L left stock n st) (c : Chg3 pen left stock H H') (r' : RoomAt H' pen L left stock m su) : Tk H H' := fun b xs e => c b _
  ⟨fun z => (by obtain ⟨ns, a, x, hp, _⟩ := r.pe; rw [z, hp] at e; cases e), fun z => (by rw [z, r.le] at e; cases e), fun z => (by rw [z, r.sk] at e; cases e)⟩ e
end
/-- the functions that a part may name, with how many things they want -/
def WorldAt (H : Hp) (world : Addr) (W : List (Str × Nat)) : Prop := ∃ xs, H world = some (.lst xs) ∧ Tps H xs (W.map fun q => .tuple [.str q.1, .int q.2])
def WorldOk (W : List (Str × Nat)) : Prop := W.length ≤ 8 ∧ ∀ q ∈ W, isName q.1 ∧ q.2 ≤ 4
theorem WorldAt.mono {H H' : Hp} {world : Addr} {W : List (Str × Nat)} (h : WorldAt H world W) (k : Tk H H') (c : ∀ o, H world = some o → H' world = some o) : WorldAt H' world W := by
  obtain ⟨xs, e, t⟩ := h
  exact ⟨xs, c _ e, t.mono k⟩
/-- all that a part's drawing leans on -/
structure GenAt (H : Hp) (pen L world scope left stock : Addr) (W : List (Str × Nat)) (sc : List Str) (n : Int) (st : List Str) : Prop where
  r : RoomAt H pen L left stock n st
  w : WorldAt H world W
  gsc : H scope = some (.lst (sc.map V.str))
  fw : Fix pen left stock world
  fs : Fix pen left stock scope
section
variable {H H' H1 : Hp} {pen L world scope left stock b : Addr} {W : List (Str × Nat)} {sc : List Str} {n : Int} {st : List Str}
theorem GenAt.same (g : GenAt H pen L world scope left stock W sc n st) (s : Same H H') : GenAt H' pen L world scope left stock W sc n st :=
  ⟨g.r.same s, g.w.mono (Same.tk s) (fun o e => s _ _ e), s _ _ g.gsc, g.fw, g.fs⟩
/-- behind anything that keeps all but the three -/
theorem GenAt.go {m : Int} {su : List Str} (g : GenAt H pen L world scope left stock W sc n st) (r' : RoomAt H' pen L left stock m su) (c : Chg3 pen left stock H H') : GenAt H' pen L world scope left stock W sc m su :=
  ⟨r', g.w.mono (g.r.tk c r') (fun o e => c _ _ g.fw e), c _ _ g.fs g.gsc, g.fw, g.fs⟩
theorem GenAt.draw (g : GenAt H pen L world scope left stock W sc n st) (h : PenAt H' pen L) (c : Chg pen H H') : GenAt H' pen L world scope left stock W sc n st :=
  g.go (g.r.draw h c) (.ofp c)
end
/-- the names that stand and may come: all unlike, few -/
structure NamesOk (sc st : List Str) : Prop where
  nsc : ∀ x ∈ sc, isName x
  nst : ∀ x ∈ st, isName x
  nd : st.Nodup
  few : sc.length + st.length ≤ 60
/-- what comes of a drawn part -/
structure PartOut (fs sc : List Str) (d : Nat) (n : Int) (st : List Str) (p : Part) (n' : Int) (st' : List Str) : Prop where
  ok : p.ok fs sc
  deep : p.deep ≤ d
  size : (p.size : Int) + n' ≤ 1 + n
  left : 0 ≤ n'
  names : ∃ u, st = st' ++ u ∧ p.rowNames.Nodup ∧ ∀ x ∈ p.rowNames, x ∈ u
/-! ### a leaf -/
theorem canLay_name {x : Str} (h : isName x) : PyData.canLay0 (.str x) = true := by
  rw [PyData.canLay0]
  unfold PyData.strOk
  rw [Array.all_eq_true]
  intro i hi
  have hm : x.cps[i] ∈ x.cps.toList := by simp
  have := h.2.2 _ hm
  exact decide_eq_true (by omega)
theorem shaped_list {ds : List PyData} {k : Nat} (h1 : ∀ d ∈ ds, PyData.canLay0 d = true) (h2 : ∀ d ∈ ds, PyData.depth d ≤ k) (hk : k ≤ 63) : SeqAt.shaped (.list ds) = true := by
  have a1 : ∀ ds : List PyData, (∀ d ∈ ds, PyData.canLay0 d = true) → PyData.canLayAll0 ds = true := by
    intro ds h
    induction ds with
    | nil => rfl
    | cons d ds ih => rw [PyData.canLayAll0, h d (by simp), ih fun e he => h e (by simp [he])]; rfl
  have a2 : ∀ ds : List PyData, (∀ d ∈ ds, PyData.depth d ≤ k) → PyData.depthAll ds ≤ k := by
    intro ds h
    induction ds with
    | nil => rw [PyData.depthAll]; omega
    | cons d ds ih =>
      have i1 := ih fun e he => h e (by simp [he])
      have i2 := h d (by simp)
      rw [PyData.depthAll]
      omega
  have a3 := a2 ds h2
  unfold SeqAt.shaped
  rw [show PyData.canLay0 (.list ds) = true from by rw [PyData.canLay0]; exact a1 ds h1, Bool.true_and, decide_eq_true_eq, PyData.depth]
  omega
theorem shaped_names {ss : List Str} (h : ∀ x ∈ ss, isName x) : SeqAt.shaped (.list (ss.map PyData.str)) = true :=
  shaped_list (k := 0) (fun d hd => by obtain ⟨x, hx, rfl⟩ := List.mem_map.mp hd; exact canLay_name (h x hx)) (fun d hd => by obtain ⟨x, hx, rfl⟩ := List.mem_map.mp hd; rw [PyData.depth]; omega) (by decide)
theorem shaped_world {W : List (Str × Nat)} (h : WorldOk W) : SeqAt.shaped (.list (W.map fun q => PyData.tuple [.str q.1, .int q.2])) = true :=
  shaped_list (k := 1) (fun d hd => by
      obtain ⟨x, hx, rfl⟩ := List.mem_map.mp hd
      simp only [PyData.canLay0, PyData.canLayAll0]
      have := canLay_name (h.2 x hx).1
      rw [PyData.canLay0] at this
      rw [this]; rfl)
    (fun d hd => by obtain ⟨x, hx, rfl⟩ := List.mem_map.mp hd; simp [PyData.depth, PyData.depthAll]) (by decide)
theorem shaped_nil : SeqAt.shaped (.list []) = true := shaped_names (ss := []) (by simp)
theorem eqv_nil {ds : List PyData} : PyData.eqv (.list ds) (.list []) = ds.isEmpty := by
  cases ds <;> rfl
def spLeaf : Sp := fun vs H Q _ => ∃ (pen L world scope left stock : Addr) (W : List (Str × Nat)) (sc : List Str) (n : Int) (st : List Str) (want : Str), vs = [.ref pen, .ref world, .ref scope, .str want] ∧
  GenAt H pen L world scope left stock W sc n st ∧ WorldOk W ∧ NamesOk sc st ∧ 0 ≤ n ∧
  ∀ (v : V) (p : Part) (H' : Hp), Tp H' v p.data → GenAt H' pen L world scope left stock W sc n st → PartOut (W.map (·.1)) sc 1 n st p n st → Chg3 pen left stock H H' → Q v H'
theorem tp_num {H : Hp} {a : Addr} {n : Int} (h : H a = some (.tup [.str "number", .int n])) : Tp H (.ref a) (Part.num n).data := .tup h (.cons (.str _) (.one (.int n)))
theorem tp_name {H : Hp} {a : Addr} {x : Str} (h : H a = some (.tup [.str "name", .str x])) : Tp H (.ref a) (Part.name x).data := .tup h (.cons (.str _) (.one (.str x)))
theorem tp_fn {H : Hp} {a : Addr} {x : Str} (h : H a = some (.tup [.str "fun", .str x])) : Tp H (.ref a) (Part.fn x).data := .tup h (.cons (.str _) (.one (.str x)))
theorem pure_leaf {K : PySem.W.Frag} {w : World} : PureOk 4 spLeaf (t_law_leaf K w spDraw spNumber) 5 := by
  refine ⟨fun vs H Q E ⟨_, _, _, _, _, _, _, _, _, _, _, e, _⟩ => by rw [e]; rfl, ?_⟩
  rintro vs H Q E ⟨pen, L, world, scope, left, stock, W, sc, n, st, want, rfl, g, hW, hN, hn, q⟩
  show t_law_leaf K w _ _ _ [some (.ref pen), some (.ref world), some (.ref scope), some (.str want), none] H
  unfold t_law_leaf
  walk_at "go"
  refine g_draw g.r.pe (by decide) (by decide) fun way H1 w0 w1 hP1 c1 => ?_
  have g1 := g.draw hP1 c1
  walk_at "go"
  intro a H2 na ea s2
  have g2 := g1.same s2
  have c2 : Chg3 pen left stock H H2 := Chg3.trans (.ofp c1) (.same s2)
  refine g_neD (.lst (.of g2.gsc) (Tps.dp (Tps.strs sc))) (.lst (.of ea) .nil) (shaped_names hN.nsc) shaped_nil ?_
  rw [eqv_nil]
  walk_at "go"
  have outN : ∀ p : Part, p.ok (W.map (·.1)) sc → p.deep = 1 → p.size = 1 → p.rowNames = [] → PartOut (W.map (·.1)) sc 1 n st p n st := fun p h1 h2 h3 h4 =>
    ⟨h1, by omega, by rw [h3]; omega, hn, [], by simp, by rw [h4]; exact List.nodup_nil, by rw [h4]; simp⟩
  refine g_cut (B := ?B) ?f ?b
  case f =>
    intro tail
    refine g_ite (fun hne => ?_) (fun _ => ?_)
    · walk_at "go"
      refine g_ite (fun _ => ?_) (fun _ => ?_)
      rotate_left
      · exact tail.out
      have hsc : 0 < sc.length := by
        cases sc with
        | nil => simp at hne
        | cons x l => simp
      walk_at "go"
      refine g_lenL (.of g2.gsc) ?_
      walk_at "go"
      refine g_draw g2.r.pe (by rw [List.length_map]; omega) (by rw [List.length_map]; have := hN.few; omega) fun v H3 v0 v1 hP3 c3 => ?_
      have g3 := g2.draw hP3 c3
      obtain ⟨u, h1, h2, _⟩ := atI_in (xs := sc.map V.str) v0 v1
      obtain ⟨x, hx, rfl⟩ := List.mem_map.mp h2
      refine g_ixL (.of g3.gsc) h1 ?_
      walk_at "go"
      intro p H4 np ep s4
      exact q _ (.name x) H4 (tp_name ep) (g3.same s4) (outN _ ⟨hx, hN.nsc x hx⟩ rfl rfl rfl) (c2.trans (.trans (.ofp c3) (.same s4)))
    · refine g_F rfl ?_
      exact tail.out
  case b =>
    walk_at "go"
    intro a4 H4 na4 ea4 s4
    have g4 := g2.same s4
    have c4 : Chg3 pen left stock H H4 := c2.trans (.same s4)
    obtain ⟨wx, hw, tw⟩ := g4.w
    refine g_neD (.lst (.of hw) (Tps.dp tw)) (.lst (.of ea4) .nil) (shaped_world hW) shaped_nil ?_
    rw [eqv_nil]
    walk_at "go"
    refine g_cut (B := ?B2) ?f2 ?b2
    case f2 =>
      intro tail
      refine g_ite (fun hne => ?_) (fun _ => ?_)
      · walk_at "go"
        refine g_ite (fun _ => ?_) (fun _ => ?_)
        · walk_at "go"
          refine g_ite (fun _ => ?_) (fun _ => ?_)
          rotate_left
          · exact tail.out
          have hl := tw.length
          rw [List.length_map] at hl
          have hWl : 0 < W.length := by
            cases W with
            | nil => simp at hne
            | cons x l => simp
          walk_at "go"
          refine g_lenL (.of hw) ?_
          walk_at "go"
          refine g_draw g4.r.pe (by omega) (by have := hW.1; omega) fun v H5 v0 v1 hP5 c5 => ?_
          have g5 := g4.draw hP5 c5
          obtain ⟨wx5, hw5, tw5⟩ := g5.w
          have ew : wx5 = wx := by
            have := c5 _ _ g.fw.p hw
            rw [hw5] at this
            cases this
            rfl
          subst ew
          obtain ⟨u, h1, _, h3⟩ := atI_in (xs := wx5) v0 v1
          obtain ⟨d, hd, tu⟩ := tw5.get h3
          rw [List.getElem?_map] at hd
          obtain ⟨⟨f, k⟩, hf, rfl⟩ := Option.map_eq_some_iff.mp hd
          have hfW := List.mem_of_getElem? hf
          refine g_ixL (.of hw5) h1 ?_
          cases tu with
          | tup et rt =>
            cases rt with
            | cons t1 _ =>
              cases t1
              refine g_ixT (.of et) (atI_of (by decide) rfl) ?_
              walk_at "go"
              intro p H6 np ep s6
              exact q _ (.fn f) H6 (tp_fn ep) (g5.same s6) (outN _ ⟨List.mem_map.mpr ⟨(f, k), hfW, rfl⟩, (hW.2 _ hfW).1⟩ rfl rfl rfl) (c4.trans (.trans (.ofp c5) (.same s6)))
        · refine g_F rfl ?_
          exact tail.out
      · refine g_F rfl ?_
        exact tail.out
    case b2 =>
      walk_at "go"
      refine ⟨pen, L, rfl, g4.r.pe, fun m H5 hm hP5 c5 => ?_⟩
      walk_at "go"
      intro p H6 np ep s6
      exact q _ (.num m) H6 (tp_num ep) ((g4.draw hP5 c5).same s6) (outN _ hm rfl rfl rfl) (c4.trans (.trans (.ofp c5) (.same s6)))

/-! ### names that are used up -/
def Used (st st' A : List Str) : Prop := ∃ u, st = st' ++ u ∧ A.Nodup ∧ ∀ x ∈ A, x ∈ u
section
variable {st st1 st2 A B : List Str}
theorem Used.refl : Used st st [] := ⟨[], by simp, List.nodup_nil, by simp⟩
theorem Used.app (h : Used st st1 A) (h2 : Used st1 st2 B) (nd : st.Nodup) : Used st st2 (A ++ B) := by
  obtain ⟨u, rfl, n1, s1⟩ := h
  obtain ⟨v, rfl, n2, s2⟩ := h2
  refine ⟨v ++ u, by simp, List.nodup_append.mpr ⟨n1, n2, fun a ha b hb e => ?_⟩, fun x hx => ?_⟩
  · subst e
    have h1 := s1 _ ha
    have h2 := s2 _ hb
    exact (List.nodup_append.mp nd).2.2 a (by simp [h2]) a h1 rfl
  · rcases List.mem_append.mp hx with h | h
    · exact List.mem_append.mpr (.inr (s1 x h))
    · exact List.mem_append.mpr (.inl (s2 x h))
theorem Used.swap (h : Used st st1 A) (h2 : Used st1 st2 B) (nd : st.Nodup) : Used st st2 (B ++ A) := by
  obtain ⟨u, e, n, s⟩ := h.app h2 nd
  refine ⟨u, e, ?_, fun x hx => s x (by rw [List.mem_append] at hx ⊢; exact hx.symm)⟩
  rw [List.nodup_append] at n ⊢
  exact ⟨n.2.1, n.1, fun a ha b hb e => n.2.2 b hb a ha e.symm⟩
theorem Used.left (h : Used st st1 A) : Used st st1 [] := by
  obtain ⟨u, e, _, _⟩ := h
  exact ⟨u, e, List.nodup_nil, by simp⟩
/-- the later ones are not used -/
theorem Used.fst (h : Used st st1 A) (h2 : Used st1 st2 B) : Used st st2 A := by
  obtain ⟨u, rfl, n1, s1⟩ := h
  obtain ⟨v, rfl, n2, s2⟩ := h2
  exact ⟨v ++ u, by simp, n1, fun x hx => List.mem_append.mpr (.inr (s1 x hx))⟩
theorem Used.len (h : Used st st1 A) : st1.length ≤ st.length := by
  obtain ⟨u, rfl, _, _⟩ := h
  rw [List.length_append]
  omega
theorem NamesOk.go {sc : List Str} (n : NamesOk sc st) (h : Used st st1 A) : NamesOk sc st1 := by
  obtain ⟨u, rfl, _, _⟩ := h
  exact ⟨n.nsc, fun x hx => n.nst x (List.mem_append.mpr (.inl hx)), (List.nodup_append.mp n.nd).1, by have := n.few; rw [List.length_append] at this; omega⟩
end
/-! ### room -/
def RoomL (H : Hp) (room left stock : Addr) (D : Int) : Prop := H room = some (.lst [.int D, .ref left, .ref stock])
def spFits : Sp := fun vs H Q _ => ∃ (pen L room left stock : Addr) (D n many : Int) (st : List Str), vs = [.ref room, .int many] ∧ RoomAt H pen L left stock n st ∧ RoomL H room left stock D ∧
  (n < many → Q (.bl false) H) ∧ (many ≤ n → ∀ H', RoomAt H' pen L left stock (n - many) st → Chg left H H' → Q (.bl true) H')
theorem pure_fits {K : PySem.W.Frag} {w : World} : PureOk 2 spFits (t_law_fits K w) 2 := by
  refine ⟨fun vs H Q E ⟨_, _, _, _, _, _, _, _, _, e, _⟩ => by rw [e]; rfl, ?_⟩
  rintro vs H Q E ⟨pen, L, room, left, stock, D, n, many, st, rfl, r, hr, q1, q2⟩
  show t_law_fits K w _ [some (.ref room), some (.int many)] H
  unfold t_law_fits
  unfold RoomL at hr
  have hl := r.le
  walk_at "go"
  refine g_ite (fun h => ?_) (fun h => ?_)
  · walk_at "go"
    exact q1 (of_decide_eq_true h)
  · walk_at "go"
    refine g_setL hl rfl fun H' e1 c1 => ?_
    walk_at "go"
    exact q2 (by have := of_decide_eq_false h; omega) H' (r.setLeft e1 c1) c1
/-! ### parts, calls, lets: what they lean on, what they tell -/
structure PartPre (H : Hp) (pen L world scope room left stock : Addr) (W : List (Str × Nat)) (sc : List Str) (D n : Int) (st : List Str) (want : Str) : Prop where
  g : GenAt H pen L world scope left stock W sc n st
  w : WorldOk W
  nm : NamesOk sc st
  n0 : 0 ≤ n
  rm : RoomL H room left stock D
  fr : Fix pen left stock room
  d0 : 0 ≤ D
  wt : want ∈ [("number" : Str), "pair", "any"]
def PartPost (H : Hp) (pen L world scope left stock : Addr) (W : List (Str × Nat)) (sc : List Str) (d : Nat) (n : Int) (st : List Str) (Q : VK) : Prop :=
  ∀ (v : V) (p : Part) (n' : Int) (st' : List Str) (H' : Hp), Tp H' v p.data → GenAt H' pen L world scope left stock W sc n' st' → PartOut (W.map (·.1)) sc d n st p n' st' → Chg3 pen left stock H H' → Q v H'
def spPart (m : Nat) : Sp := fun vs H Q _ => ∃ (pen L world scope room left stock : Addr) (W : List (Str × Nat)) (sc : List Str) (D n : Int) (st : List Str) (want : Str), vs = [.ref pen, .ref world, .ref scope, .ref room, .str want] ∧
  PartPre H pen L world scope room left stock W sc D n st want ∧ D.toNat < m ∧ PartPost H pen L world scope left stock W sc (D.toNat + 1) n st Q
/-- a let's, its room one less deep -/
def spLet (m : Nat) : Sp := fun vs H Q _ => ∃ (pen L world scope room left stock : Addr) (W : List (Str × Nat)) (sc : List Str) (D n : Int) (st : List Str) (want : Str), vs = [.ref pen, .ref world, .ref scope, .ref room, .str want] ∧
  PartPre H pen L world scope room left stock W sc D n st want ∧ D.toNat < m ∧ PartPost H pen L world scope left stock W sc (D.toNat + 2) n st Q
def spCallP (m : Nat) : Sp := fun vs H Q _ => ∃ (pen L world scope room left stock : Addr) (W : List (Str × Nat)) (sc : List Str) (D n : Int) (st : List Str) (want : Str), vs = [.ref pen, .ref world, .ref scope, .ref room, .str want] ∧
  PartPre H pen L world scope room left stock W sc D n st want ∧ D.toNat < m ∧ 5 ≤ D ∧ W ≠ [] ∧ PartPost H pen L world scope left stock W sc (D.toNat + 2) n st Q
theorem PartOut.leaf {fs sc : List Str} {d : Nat} {n n1 : Int} {st st' : List Str} {p : Part} (h : PartOut fs sc 1 n st p n1 st') (hd : 1 ≤ d) : PartOut fs sc d n st p n1 st' := ⟨h.ok, Nat.le_trans h.deep hd, h.size, h.left, h.names⟩
section
variable {H H' : Hp} {pen L world scope room left stock : Addr} {W : List (Str × Nat)} {sc : List Str} {D n : Int} {st : List Str} {want : Str}
theorem PartPre.leafArgs (h : PartPre H pen L world scope room left stock W sc D n st want) {d : Nat} {Q : VK} {E : XK} (hd : 1 ≤ d) (q : PartPost H pen L world scope left stock W sc d n st Q) :
    spLeaf ([.ref pen, .ref world, .ref scope, .str want] ++ []) H Q E := ⟨pen, L, world, scope, left, stock, W, sc, n, st, want, rfl, h.g, h.w, h.nm, h.n0, fun v p H' t g o c => q v p n st H' t g (o.leaf hd) c⟩
theorem PartPre.go {n' : Int} {st' A : List Str} (h : PartPre H pen L world scope room left stock W sc D n st want) (g : GenAt H' pen L world scope left stock W sc n' st') (c : Chg3 pen left stock H H') (u : Used st st' A) (h0 : 0 ≤ n') :
    PartPre H' pen L world scope room left stock W sc D n' st' want := ⟨g, h.w, h.nm.go u, h0, c _ _ h.fr h.rm, h.fr, h.d0, h.wt⟩
end
theorem pure_callp {K : PySem.W.Frag} {w : World} {m : Nat} : PureOk 5 (spCallP m) (t_law_call K w spDraw spFits spLeaf (spPart m)) 11 := by
  refine ⟨fun vs H Q E ⟨_, _, _, _, _, _, _, _, _, _, _, _, _, e, _⟩ => by rw [e]; rfl, ?_⟩
  rintro vs H Q E ⟨pen, L, world, scope, room, left, stock, W, sc, D, n, st, want, rfl, h, hD, hD5, hW0, q⟩
  show t_law_call K w _ _ _ _ _ [some (.ref pen), some (.ref world), some (.ref scope), some (.ref room), some (.str want), none, none, none, none, none, none] H
  unfold t_law_call
  walk_at "go"
  obtain ⟨wx, hw, tw⟩ := h.g.w
  have hl := tw.length
  rw [List.length_map] at hl
  have hWl : 0 < W.length := by
    cases W with
    | nil => exact absurd rfl hW0
    | cons x l => simp
  refine g_lenL (.of hw) ?_
  walk_at "go"
  refine g_draw h.g.r.pe (by omega) (by have := h.w.1; omega) fun v H1 v0 v1 hP1 c1 => ?_
  have g1 := h.g.draw hP1 c1
  have hw1 := c1 _ _ h.g.fw.p hw
  have tw1 := tw.mono (h.g.r.tk (.ofp c1) g1.r)
  obtain ⟨u, hu, _, hu3⟩ := atI_in (xs := wx) v0 v1
  obtain ⟨d, hd, tu⟩ := tw1.get hu3
  rw [List.getElem?_map] at hd
  obtain ⟨⟨f, k⟩, hf, rfl⟩ := Option.map_eq_some_iff.mp hd
  have hfW := List.mem_of_getElem? hf
  refine g_ixL (.of hw1) hu ?_
  cases tu with
  | tup et rt =>
  cases rt with
  | cons t1 rt =>
  cases t1
  cases rt with
  | cons t2 rt =>
  cases t2
  cases rt
  refine ⟨_, _, rfl, .of et, rfl, _, _, rfl, ?_⟩
  walk_at "go"
  refine ⟨_, _, rfl, ?_⟩
  walk_at "go"
  refine ⟨rfl, ?_⟩
  walk_at "go"
  intro a2 H2 na2 ea2 s2
  have g2 := g1.same s2
  walk_at "go"
  refine g_draw g2.r.pe (by decide) (by decide) fun y H3 y0 y1 hP3 c3 => ?_
  have g3 := g2.draw hP3 c3
  have c3' : Chg3 pen left stock H H3 := Chg3.trans (.ofp c1) (.trans (.same s2) (.ofp c3))
  obtain ⟨z, hz, hz1, hz2⟩ : ∃ z : Int, atI [V.int 0, V.int 0, V.int 0, V.int 0, V.int 0, V.int 0, V.int 1, V.int (-1)] y = some (.int z) ∧ -1 ≤ z ∧ z ≤ 1 := by
    obtain ⟨v, h1, h2, _⟩ := atI_in (xs := [V.int 0, V.int 0, V.int 0, V.int 0, V.int 0, V.int 0, V.int 1, V.int (-1)]) y0 y1
    simp only [List.mem_cons, List.not_mem_nil, or_false] at h2
    rcases h2 with rfl | rfl | rfl | rfl | rfl | rfl | rfl | rfl <;> exact ⟨_, h1, by decide, by decide⟩
  refine g_ixL (.of (c3 _ _ (g1.r.new na2).p ea2)) hz ?_
  walk_at "go"
  have hk : (k : Int) ≤ 4 := by have := (h.w.2 _ hfW).2; omega
  obtain ⟨many, hmany, hm0, hm5⟩ : ∃ many : Nat, max 0 ((k : Int) + z) = (many : Int) ∧ 0 ≤ many ∧ many ≤ 5 := ⟨(max 0 ((k : Int) + z)).toNat, by omega, by omega, by omega⟩
  rw [hmany]
  refine g_mulI (.inl ⟨by decide, by decide⟩) ?_
  walk_at "go"
  have hroom3 := c3' _ _ h.fr h.rm
  have pre3 : PartPre H3 pen L world scope room left stock W sc D n st want := h.go g3 c3' .refl h.n0
  refine ⟨pen, L, room, left, stock, D, n, 2 * (many : Int), st, rfl, g3.r, hroom3, fun _ => ?_, fun hfit H4 r4 c4 => ?_⟩
  · walk_at "go"
    refine g_T rfl ?_
    walk_at "go"
    exact pre3.leafArgs (by omega) fun v p n' st' H' t g o c => q v p n' st' H' t g o (c3'.trans c)
  · walk_at "go"
    refine g_F rfl ?_
    walk_at "go"
    intro a5 H5 na5 ea5 s5
    have g4 := g3.go r4 (.ofl c4)
    have c5 : Chg3 pen left stock H H5 := c3'.trans (.trans (.ofl c4) (.same s5))
    have g5 := g4.same s5
    have hroom5 := c5 _ _ h.fr h.rm
    unfold RoomL at hroom5
    walk_at "go"
    intro room2 H6 nr er s6
    have g6 := g5.same s6
    have c6 := c5.trans (.same s6)
    have fr2 := g5.r.new nr
    walk_at "go"
    refine g_isrng (by omega) (by omega) ?_
    refine for_any many (fun i σ H' => ∃ (x : Option V) (v : V) (p : Part) (n' : Int) (st' : List Str), σ = [some (.ref pen), some (.ref world), some (.ref scope), some (.ref room), some (.str want), some (.str f), some (.int k), some (.int many), some v, some (.ref room2), x] ∧
        Tp H' v p.data ∧ GenAt H' pen L world scope left stock W sc n' st' ∧ p.ok (W.map (·.1)) sc ∧ p.deep ≤ i + (D - many).toNat + 1 ∧ (p.size : Int) + n' ≤ 1 + (n - 2 * many) + 2 * i ∧ 0 ≤ n' ∧ Used st st' p.rowNames ∧ Chg3 pen left stock H6 H')
      ⟨none, .ref a5, .fn f, n - 2 * many, st, rfl, tp_fn (s6 _ _ ea5), g6, ⟨List.mem_map.mpr ⟨(f, k), hfW, rfl⟩, (h.w.2 _ hfW).1⟩, by show 1 ≤ _; omega, by show ((1 : Nat) : Int) + _ ≤ _; omega, by omega, .refl, .refl⟩
      (fun i σ H' hi _ => hi) (fun σ H' _ => Nat.le_refl _) ?_ ?_
    · rintro i x σ _ H7 hi ⟨x0, v, p, n', st', rfl, tv, g7, ok7, d7, z7, n7, u7, c7⟩ ⟨rfl, rfl⟩
      walk_at "go"
      intro a8 H8 na8 ea8 s8
      walk_at "go"
      have g8 := g7.same s8
      refine g_draw g8.r.pe (by decide) (by decide) fun y H9 y0 y1 hP9 c9 => ?_
      have g9 := g8.draw hP9 c9
      walk_at "go"
      refine g_divI ⟨by decide, by decide⟩ ?_
      obtain ⟨wt, hwt, hwm⟩ : ∃ wt : Str, atI [V.str "number", V.str "any"] (y / 2) = some (.str wt) ∧ wt ∈ [("number" : Str), "pair", "any"] := by
        obtain ⟨v, h1, h2, _⟩ := atI_in (xs := [V.str "number", V.str "any"]) (i := y / 2) (by omega) (by show y / 2 < 2; omega)
        simp only [List.mem_cons, List.not_mem_nil, or_false] at h2
        rcases h2 with rfl | rfl <;> exact ⟨_, h1, by simp⟩
      refine g_ixL (.of (c9 _ _ (g7.r.new na8).p ea8)) hwt ?_
      walk_at "go"
      have c9' : Chg3 pen left stock H7 H9 := .trans (.same s8) (.ofp c9)
      have hr9 : RoomL H9 room2 left stock (D - many) := c9' _ _ fr2 (c7 _ _ fr2 er)
      refine ⟨pen, L, world, scope, room2, left, stock, W, sc, D - many, n', st', wt, rfl, ⟨g9, h.w, h.nm.go u7, n7, hr9, fr2, by omega, hwm⟩, by omega, fun v2 p2 n2 st2 H10 t2 g10 o10 c10 => ?_⟩
      walk_at "go"
      intro a11 H11 na11 ea11 s11
      walk_at "go"
      have c10' := c9'.trans c10
      refine ⟨_, .ref a11, .two .give p p2, n2, st2, rfl, ?_, g10.same s11, ⟨ok7, o10.ok⟩, ?_, ?_, o10.left, u7.app o10.names h.nm.nd, c7.trans (c10'.trans (.same s11))⟩
      · have tv' := (tv.mono (g7.r.tk c10' g10.r)).mono (Same.tk s11)
        exact .tup ea11 (.cons (.str _) (.cons tv' (.one (t2.mono (Same.tk s11)))))
      · have := o10.deep
        show 1 + max _ _ ≤ _
        omega
      · have := o10.size
        show ((1 + (p.size + p2.size) : Nat) : Int) + _ ≤ _
        omega
    · rintro σ H7 ⟨x0, v, p, n', st', rfl, tv, g7, ok7, d7, z7, n7, u7, c7⟩
      walk_at "go"
      exact q v p n' st' H7 tv g7 ⟨ok7, by omega, by omega, n7, u7⟩ (c6.trans c7)

section
variable {H H' : Hp} {pen L world scope left stock d : Addr} {W : List (Str × Nat)} {sc : List Str} {n : Int} {st : List Str}
/-- another list changes -/
theorem GenAt.oth {ys : List V} (g : GenAt H pen L world scope left stock W sc n st) (c : Chg d H H') (f : Fix pen left stock d) (fL : L ≠ d) (fw : world ≠ d) (fs : scope ≠ d) (hl : H d = some (.lst ys)) : GenAt H' pen L world scope left stock W sc n st :=
  ⟨g.r.chg c f fL, g.w.mono (c.tkl hl) (fun o e => c _ _ fw e), c _ _ fs g.gsc, g.fw, g.fs⟩
/-- another scope -/
theorem GenAt.scp {scope2 : Addr} {sc2 : List Str} (g : GenAt H pen L world scope left stock W sc n st) (h : H scope2 = some (.lst (sc2.map V.str))) (f : Fix pen left stock scope2) : GenAt H pen L world scope2 left stock W sc2 n st :=
  ⟨g.r, g.w, h, g.fw, f⟩
theorem GenAt.free (g : GenAt H pen L world scope left stock W sc n st) (h : H d = none) : Fix pen left stock d ∧ L ≠ d ∧ world ≠ d ∧ scope ≠ d := by
  obtain ⟨xs, hw, _⟩ := g.w
  obtain ⟨ns, a, r, hp, hL, _⟩ := g.r.pe
  exact ⟨g.r.new h, ne_of_none hL h, ne_of_none hw h, ne_of_none g.gsc h⟩
end
theorem pure_letp {K : PySem.W.Frag} {w : World} {m : Nat} : PureOk 5 (spLet m) (t_law_let K w spDraw spFits spLeaf (spPart m)) 11 := by
  refine ⟨fun vs H Q E ⟨_, _, _, _, _, _, _, _, _, _, _, _, _, e, _⟩ => by rw [e]; rfl, ?_⟩
  rintro vs H Q E ⟨pen, L, world, scope, room, left, stock, W, sc, D, n, st, want, rfl, h, hD, q⟩
  show t_law_let K w _ _ _ _ _ [some (.ref pen), some (.ref world), some (.ref scope), some (.ref room), some (.str want), none, none, none, none, none, none] H
  unfold t_law_let
  walk_at "go"
  intro a1 H1 na1 ea1 s1
  have g1 := h.g.same s1
  walk_at "go"
  refine g_draw g1.r.pe (by decide) (by decide) fun y H2 y0 y1 hP2 c2 => ?_
  have g2 := g1.draw hP2 c2
  have c2' : Chg3 pen left stock H H2 := .trans (.same s1) (.ofp c2)
  obtain ⟨many, hmany, hm1, hm4⟩ : ∃ many : Nat, atI [V.int 1, V.int 1, V.int 2, V.int 1, V.int 2, V.int 3, V.int 4] y = some (.int many) ∧ 1 ≤ many ∧ many ≤ 4 := by
    obtain ⟨v, h1, h2, _⟩ := atI_in (xs := [V.int 1, V.int 1, V.int 2, V.int 1, V.int 2, V.int 3, V.int 4]) y0 y1
    simp only [List.mem_cons, List.not_mem_nil, or_false] at h2
    rcases h2 with rfl | rfl | rfl | rfl | rfl | rfl | rfl <;> first | exact ⟨1, h1, by decide, by decide⟩ | exact ⟨2, h1, by decide, by decide⟩ | exact ⟨3, h1, by decide, by decide⟩ | exact ⟨4, h1, by decide, by decide⟩
  refine g_ixL (.of (c2 _ _ (h.g.r.new na1).p ea1)) hmany ?_
  have pre2 : PartPre H2 pen L world scope room left stock W sc D n st want := h.go g2 c2' .refl h.n0
  have hroom2 := pre2.rm
  unfold RoomL at hroom2
  walk_at "go"
  refine g_lenL (.of g2.r.sk) ?_
  walk_at "go"
  have leafy : spLeaf ([.ref pen, .ref world, .ref scope, .str want] ++ []) H2 Q E0 := pre2.leafArgs (by omega) fun v p n' st' H' t g o c => q v p n' st' H' t g o (c2'.trans c)
  refine g_ite (fun _ => ?_) (fun hlen => ?_)
  · refine g_T rfl ?_
    walk_at "go"
    exact leafy
  have hlen' : many ≤ st.length := by have := of_decide_eq_false hlen; rw [List.length_map] at this; omega
  walk_at "go"
  refine ⟨pen, L, room, left, stock, D, n, (many : Int) + 1, st, rfl, g2.r, pre2.rm, fun _ => ?_, fun hfit H4 r4 c4 => ?_⟩
  · walk_at "go"
    refine g_T rfl ?_
    walk_at "go"
    exact leafy
  walk_at "go"
  refine g_F rfl ?_
  walk_at "go"
  have g4 := g2.go r4 (.ofl c4)
  have c4' : Chg3 pen left stock H H4 := c2'.trans (.ofl c4)
  have hroom4 : RoomL H4 room left stock D := c4' _ _ h.fr h.rm
  refine g_isrng (by omega) (by omega) fun dn hdn => ?_
  have fd := g4.free hdn
  refine lc_any many (fun i acc H' => ∃ ns st1 : List Str, acc = ns.map V.str ∧ ns.length = i ∧ st = st1 ++ ns.reverse ∧ GenAt H' pen L world scope left stock W sc (n - (many + 1)) st1 ∧ Chg3 pen left stock H4 H') hdn
    (fun H' _ s => ⟨[], st, rfl, rfl, by simp, g4.same s, .same s⟩) (fun i acc H' hi _ => hi) (fun acc H' _ => Nat.le_refl _) ?_ ?_
  · rintro i x acc _ H5 hi hl ⟨ns, st1, rfl, hns, hst, g5, c5⟩ hd5 ⟨rfl, rfl⟩
    walk_at "go"
    refine ⟨rfl, ?_⟩
    walk_at "go"
    refine g_T rfl ?_
    walk_at "go"
    have hroom5 := c5 _ _ h.fr hroom4
    unfold RoomL at hroom5
    walk_at "go"
    obtain ⟨su, x, rfl⟩ : ∃ su x, st1 = su ++ [x] := by
      have : st1 ≠ [] := by
        rintro rfl
        rw [hst, List.nil_append, List.length_reverse] at hlen'
        omega
      exact ⟨st1.dropLast, st1.getLast this, (List.dropLast_concat_getLast this).symm⟩
    have hk5 := g5.r.sk
    rw [List.map_append] at hk5
    refine g_tyl (.of hk5) ?_
    refine g_pop hk5 fun H6 e6 c6 => ?_
    have g6 := g5.go (g5.r.setStock e6 c6) (.ofs c6)
    refine lc_step (c6 _ _ fd.1.s hd5) hl (by show _ < 16777216; omega) fun H7 e7 c7 => ?_
    exact ⟨ns ++ [x], su, by simp, by simp [hns], by rw [hst, List.reverse_append]; simp, g6.oth c7 fd.1 fd.2.1 fd.2.2.1 fd.2.2.2 (c6 _ _ fd.1.s hd5), fun b o f e => c7 b o (ne_of_none e hdn) (c6 b o f.s (c5 b o f e))⟩
  rintro acc H5 hd5 ⟨ns, st1, rfl, hns, hst, g5, c5⟩
  have hsub : ∀ x ∈ ns, x ∈ st := fun x hx => by rw [hst, List.mem_append, List.mem_reverse]; exact .inr hx
  have nmns : ∀ x ∈ ns, isName x := fun x hx => h.nm.nst x (hsub x hx)
  have ndns : ns.Nodup := by
    have := h.nm.nd
    rw [hst] at this
    exact (List.pairwise_reverse.mp (List.nodup_append.mp this).2.1).imp fun h => h.symm
  have used1 : Used st st1 ns := ⟨ns.reverse, hst, ndns, fun x hx => List.mem_reverse.mpr hx⟩
  have nm1 : NamesOk (sc ++ ns) st1 := by
    have n1 := h.nm.go used1
    refine ⟨fun x hx => ?_, n1.nst, n1.nd, ?_⟩
    · rcases List.mem_append.mp hx with h' | h'
      · exact h.nm.nsc x h'
      · exact nmns x h'
    · have := h.nm.few
      rw [hst] at this
      simp only [List.length_append, List.length_reverse] at this ⊢
      omega
  walk_at "go"
  intro rw_ H6 nr er s6
  have g6 := g5.same s6
  have fr := g5.free nr
  have hd6 := s6 _ _ hd5
  have hrd : dn ≠ rw_ := ne_of_none hd5 nr
  have c6 : Chg3 pen left stock H4 H6 := c5.trans (.same s6)
  have hroom6 : RoomL H6 room left stock D := c6 _ _ h.fr hroom4
  have hrr : room ≠ rw_ := ne_of_none (show H5 room = some _ from c5 _ _ h.fr hroom4) nr
  walk_at "go"
  refine g_seqL ?_
  walk_at "go"
  refine g_isL (.of hd6) ?_
  refine for_any ns.length (fun i σ H' => ∃ (x y : Option V) (vs : List V) (r : Rows) (n' : Int) (st' : List Str), σ = [some (.ref pen), some (.ref world), some (.ref scope), some (.ref room), some (.str want), some (.int many), some (.ref dn), none, some (.ref rw_), x, y] ∧
      H' rw_ = some (.lst vs) ∧ H' dn = some (.lst (ns.map V.str)) ∧ Tps H' vs r.datas ∧ r.names = ns.take i ∧ GenAt H' pen L world scope left stock W sc n' st' ∧ r.ok (W.map (·.1)) (sc ++ ns) ∧ r.deep ≤ D.toNat + 1 ∧ (r.size : Int) + n' ≤ n - (many + 1) + i ∧ 0 ≤ n' ∧ Used st1 st' r.rowNames ∧
      vs.length = i ∧ (∀ b o, Fix pen left stock b → b ≠ rw_ → H6 b = some o → H' b = some o))
    ⟨none, none, [], .nil, n - (many + 1), st1, rfl, er, hd6, .nil, by simp [Rows.names], g6, trivial, by show 0 ≤ _; omega, by show ((0 : Nat) : Int) + _ ≤ _; omega, by omega, .refl, rfl, fun b o _ _ e => e⟩
    (fun i σ H' hi ⟨_, _, _, _, _, _, _, _, hd', _⟩ => ⟨_, _, .of hd', (List.getElem?_eq_getElem (by rw [List.length_map]; exact hi))⟩) (fun σ H' ⟨_, _, _, _, _, _, _, _, hd', _⟩ => ⟨_, .of hd', by rw [List.length_map]; exact Nat.le_refl _⟩) ?_ ?_
  · rintro i x σ _ H7 hi ⟨x9, x10, vs, r, n', st', rfl, hr7, hd7, tv, hnm, g7, ok7, d7, z7, n7, u7, hvl, c7⟩ ⟨rfl, hx⟩
    obtain ⟨nm, hnmi, rfl⟩ : ∃ nm, ns[i]? = some nm ∧ x = .str nm := by
      have h1 := hx _ (.of hd7)
      rw [List.getElem?_map] at h1
      obtain ⟨nm, h2, h3⟩ := Option.map_eq_some_iff.mp h1
      exact ⟨nm, h2, h3.symm⟩
    walk_at "go"
    intro a8 H8 na8 ea8 s8
    walk_at "go"
    have g8 := g7.same s8
    refine g_draw g8.r.pe (by decide) (by decide) fun y H9 y0 y1 hP9 c9 => ?_
    have g9 := g8.draw hP9 c9
    obtain ⟨kd, hkd, hkm⟩ : ∃ kd : Str, atI [V.str "number", V.str "pair", V.str "any"] y = some (.str kd) ∧ kd ∈ [("number" : Str), "pair", "any"] := by
      obtain ⟨v, h1, h2, _⟩ := atI_in (xs := [V.str "number", V.str "pair", V.str "any"]) y0 y1
      simp only [List.mem_cons, List.not_mem_nil, or_false] at h2
      rcases h2 with rfl | rfl | rfl <;> exact ⟨_, h1, by simp⟩
    refine g_ixL (.of (c9 _ _ (g7.r.new na8).p ea8)) hkd ?_
    have c9' : Chg3 pen left stock H7 H9 := .trans (.same s8) (.ofp c9)
    have hr9 := c9' _ _ fr.1 hr7
    have hd9 := c9' _ _ fd.1 hd7
    walk_at "go"
    refine g_tyl (.of hr9) ?_
    walk_at "go"
    refine g_addL g9.gsc hd9 (by rw [List.length_map, List.length_map]; show _ ≤ 16777216; have := h.nm.few; omega) fun sc2 H10 ns10 es10 s10 => ?_
    rw [← List.map_append] at es10
    have g10 := (g9.same s10).scp es10 (g9.free ns10).1
    have c10 : Chg3 pen left stock H7 H10 := c9'.trans (.same s10)
    walk_at "go"
    have hrm10 : RoomL H10 room left stock D := c10 _ _ h.fr (c7 _ _ h.fr hrr hroom6)
    refine ⟨pen, L, world, sc2, room, left, stock, W, sc ++ ns, D, n', st', kd, rfl, ⟨g10, h.w, nm1.go u7, n7, hrm10, h.fr, h.d0, hkm⟩, hD, fun v p n2 st2 H11 t11 g11 o11 c11 => ?_⟩
    walk_at "go"
    intro a12 H12 na12 ea12 s12
    walk_at "go"
    have c12 : Chg3 pen left stock H7 H12 := c10.trans (c11.trans (.same s12))
    have hr12 := c12 _ _ fr.1 hr7
    have hd12 := c12 _ _ fd.1 hd7
    have g12 := (g11.same s12).scp (c12 _ _ g7.fs g7.gsc) g7.fs
    refine g_append hr12 (by rw [hvl]; show _ < 16777216; omega) fun H13 e13 c13 => ?_
    walk_at "go"
    have k12 : Tk H7 H12 := (g7.r.tk c12 g12.r)
    have k13 : Tk H12 H13 := c13.tkl hr12
    refine ⟨_, _, vs ++ [.ref a12], r.app (.cons nm p .nil), n2, st2, rfl, e13, c13 _ _ hrd hd12, ?_, ?_, g12.oth c13 fr.1 fr.2.1 fr.2.2.1 fr.2.2.2 hr12, Rows.app_ok ok7 ⟨o11.ok, trivial⟩, ?_, ?_, o11.left, ?_, by simp [hvl], fun b o f hb e => c13 b o hb (c12 b o f (c7 b o f hb e))⟩
    · rw [Rows.app_datas]
      refine Tps.append ((tv.mono k12).mono k13) (.one ?_)
      exact .tup (k13 _ _ ea12) (.cons (.str _) (.one ((t11.mono (Same.tk s12)).mono k13)))
    · rw [Rows.app_names, hnm, List.take_add_one, hnmi]
      rfl
    · rw [Rows.app_deep]
      have := o11.deep
      show max _ (max _ 0) ≤ _
      omega
    · rw [Rows.app_size]
      have := o11.size
      show ((_ + (p.size + 0) : Nat) : Int) + _ ≤ _
      omega
    · rw [Rows.app_rowNames]
      have := u7.app o11.names nm1.nd
      show Used st1 st2 (_ ++ (p.rowNames ++ []))
      rw [List.append_nil]
      exact this
  rintro σ H7 ⟨x9, x10, vs, r, n', st', rfl, hr7, hd7, tv, hnm, g7, ok7, d7, z7, n7, u7, hvl, c7⟩
  rw [List.take_length] at hnm
  walk_at "go"
  refine g_tupleL (.of hr7) fun t H8 nt et s8 => ?_
  walk_at "go"
  have g8 := g7.same s8
  refine g_addL g8.gsc (s8 _ _ hd7) (by rw [List.length_map, List.length_map]; show _ ≤ 16777216; have := h.nm.few; omega) fun sc2 H10 ns10 es10 s10 => ?_
  rw [← List.map_append] at es10
  have g10 := (g8.same s10).scp es10 (g8.free ns10).1
  have s10' : Same H7 H10 := s8.trans s10
  walk_at "go"
  have hrm10 : RoomL H10 room left stock D := s10' _ _ (c7 _ _ h.fr hrr hroom6)
  refine ⟨pen, L, world, sc2, room, left, stock, W, sc ++ ns, D, n', st', want, rfl, ⟨g10, h.w, nm1.go u7, n7, hrm10, h.fr, h.d0, h.wt⟩, hD, fun v p n2 st2 H11 t11 g11 o11 c11 => ?_⟩
  walk_at "go"
  intro a12 H12 na12 ea12 s12
  have c12 : Chg3 pen left stock H7 H12 := .trans (.same s10') (c11.trans (.same s12))
  have g12 := (g11.same s12).scp (c12 _ _ g7.fs g7.gsc) g7.fs
  have k12 : Tk H7 H12 := (g7.r.tk c12 g12.r)
  have fs12 : ∀ b o, Fix pen left stock b → H b = some o → H12 b = some o := fun b o f e => c12 b o f (c7 b o f (ne_of_none (c5 b o f (c4' b o f e)) nr) (c6 b o f (c4' b o f e)))
  have hu := used1.app (u7.app o11.names nm1.nd) h.nm.nd
  refine q (.ref a12) (.letp r p) n2 st2 H12 ?_ g12 ⟨?_, ?_, ?_, o11.left, ?_⟩ fs12
  · refine .tup ea12 (.cons (.str _) (.cons (.tup ?_ (tv.mono k12)) (.one (t11.mono (Same.tk s12)))))
    have hN : Fix pen left stock t := g7.r.new nt
    exact s12 _ _ (c11 _ _ hN (s10 _ _ et))
  · refine ⟨by rw [hnm]; omega, by rw [hnm]; rintro rfl; rw [List.length_nil] at hns; omega, by rw [hnm]; exact nmns, by rw [hnm]; exact ok7, by rw [hnm]; exact o11.ok⟩
  · have := o11.deep
    show 1 + max _ _ ≤ _
    omega
  · have := o11.size
    show ((1 + (r.size + p.size) : Nat) : Int) + _ ≤ _
    omega
  · show Used st st2 (r.names ++ (r.rowNames ++ p.rowNames))
    rw [hnm]
    exact hu

/-! ### a part by its word -/
def kinds7 : List Str := ["op", "when", "side", "let", "call", "leaf", "pair"]
def words0 : List (Key × V) := mergeK [] [(.inr "number", .str "op op op op op op when when side let call call call call leaf leaf")]
def words1 : List (Key × V) := putK words0 (.inr "pair") (.str "pair pair pair pair when when side side let let call call call op leaf pair")
def words2 : List (Key × V) := putK words1 (.inr "any") (.str "op op pair pair pair when when side side let let call call call leaf leaf")
def wordsOf (x : Str) : Str := match valV words2 (Sum.inr x) with
  | some (.str s) => s
  | _ => ""
theorem words_at : ∀ x ∈ [("number" : Str), "pair", "any"], valV words2 (Sum.inr x) = some (.str (wordsOf x)) ∧ (Txt.split (wordsOf x) " ").length = 16 ∧ (wordsOf x).length + 2 ≤ 100 ∧ ∀ y ∈ Txt.split (wordsOf x) " ", y ∈ kinds7 := by decide +kernel
def kv4 : List (Key × V) := [(.inr "side", .int 1), (.inr "pair", .int 2), (.inr "when", .int 3), (.inr "op", .int 2)]
theorem pure_part {K : PySem.W.Frag} {w : World} {m : Nat} : PureOk 5 (spPart (m + 1)) (t_law_part K w spDraw spLeaf (spCallP m) (spLet m) spFits (spPart m)) 10 := by
  refine ⟨fun vs H Q E ⟨_, _, _, _, _, _, _, _, _, _, _, _, _, e, _⟩ => by rw [e]; rfl, ?_⟩
  rintro vs H Q E ⟨pen, L, world, scope, room, left, stock, W, sc, D, n, st, want, rfl, h, hD, q⟩
  show t_law_part K w _ _ _ _ _ _ _ [some (.ref pen), some (.ref world), some (.ref scope), some (.ref room), some (.str want), none, none, none, none, none] H
  unfold t_law_part
  walk_at "go"
  intro d1 H1 nd1 ed1 s1
  walk_at "go"
  refine g_pairs [(.inr "number", .str "op op op op op op when when side let call call call call leaf leaf")] ed1 rfl (by decide) fun H2 ed2 c2 => ?_
  walk_at "go"
  refine g_setK ed2 (k := .inr "pair") rfl (by decide +kernel) fun H3 ed3 c3 => ?_
  walk_at "go"
  refine g_setK ed3 (k := .inr "any") rfl (by decide +kernel) fun H4 ed4 c4 => ?_
  have s4 : Same H H4 := Same.chg (Same.chg (Same.chg s1 nd1 c2) nd1 c3) nd1 c4
  have g4 := h.g.same s4
  clear c4 c3 c2 ed3 ed2 ed1
  walk_at "go"
  obtain ⟨hw1, hw2, hw3, hw4⟩ := words_at want h.wt
  refine g_ixD ed4 (k := .inr want) rfl hw1 ?_
  walk_at "go"
  refine ⟨_, _, rfl, rfl, by decide +kernel, by show _ ≤ 16777216; omega, fun l5 H5 nl5 el5 s5 => ?_⟩
  walk_at "go"
  have g5 := g4.same s5
  refine g_draw g5.r.pe (by decide) (by decide) fun y H6 y0 y1 hP6 c6 => ?_
  have g6 := g5.draw hP6 c6
  obtain ⟨word, hword, hk⟩ : ∃ word : Str, atI ((Txt.split (wordsOf want) " ").map V.str) y = some (.str word) ∧ word ∈ kinds7 := by
    obtain ⟨v, h1, h2, _⟩ := atI_in (xs := (Txt.split (wordsOf want) " ").map V.str) y0 (by rw [List.length_map, hw2]; exact y1)
    obtain ⟨x, hx, rfl⟩ := List.mem_map.mp h2
    exact ⟨x, h1, hw4 x hx⟩
  refine g_ixL (.of (c6 _ _ (g4.free nl5).1.p el5)) hword ?_
  have c6' : Chg3 pen left stock H H6 := .trans (.same (s4.trans s5)) (.ofp c6)
  have hr6 : RoomL H6 room left stock D := c6' _ _ h.fr h.rm
  have hr6' := hr6
  unfold RoomL at hr6'
  clear hword y0 y1 el5 hw1 hw2 hw3 hw4 ed4
  walk_at "go"
  intro inner H7 ni ei s7
  have g7 := g6.same s7
  have fi := g6.free ni
  have c7 : Chg3 pen left stock H H7 := c6'.trans (.same s7)
  have pre7 : PartPre H7 pen L world scope room left stock W sc D n st want := h.go g7 c7 .refl h.n0
  have hr7' := s7 _ _ hr6'
  have leafy : ∀ {H8 : Hp}, GenAt H8 pen L world scope left stock W sc n st → Chg3 pen left stock H7 H8 → spLeaf ([.ref pen, .ref world, .ref scope, .str want] ++ []) H8 Q E0 := fun g8 c8 =>
    (pre7.go g8 c8 .refl h.n0).leafArgs (by omega) fun v p n' st' H' t g o c => q v p n' st' H' t g o (c7.trans (c8.trans c))
  walk_at "go"
  -- what is not drawn as a leaf at once
  by_cases hd0 : D < 1
  · refine g_T (decide_eq_true hd0) ?_
    refine g_T rfl ?_
    walk_at "go"
    exact leafy g7 .refl
  refine g_F (decide_eq_false hd0) ?_
  walk_at "go"
  by_cases hleaf : word = "leaf"
  · refine g_T (decide_eq_true hleaf) ?_
    refine g_T rfl ?_
    walk_at "go"
    exact leafy g7 .refl
  refine g_F (decide_eq_false hleaf) ?_
  walk_at "go"
  by_cases hcall : word = "call"
  · refine g_T (decide_eq_true hcall) ?_
    walk_at "go"
    intro l8 H8 nl8 el8 s8
    have g8 := g7.same s8
    obtain ⟨wx, hw, tw⟩ := g8.w
    refine g_eqD (.lst (.of hw) (Tps.dp tw)) (.lst (.of el8) .nil) (shaped_world h.w) shaped_nil ?_
    rw [eqv_nil]
    have hr8' := s8 _ _ hr7'
    walk_at "go"
    refine g_ite (fun _ => ?_) (fun hW => ?_)
    · refine g_T rfl ?_
      walk_at "go"
      exact leafy g8 (.same s8)
    walk_at "go"
    refine g_ite (fun _ => ?_) (fun h6 => ?_)
    · walk_at "go"
      exact leafy g8 (.same s8)
    walk_at "go"
    refine g_T (decide_eq_true hcall) ?_
    walk_at "go"
    have h6' := of_decide_eq_false h6
    have c8 : Chg3 pen left stock H H8 := c7.trans (.same s8)
    exact ⟨pen, L, world, scope, inner, left, stock, W, sc, D - 1, n, st, want, rfl, ⟨g8, h.w, h.nm, h.n0, s8 _ _ ei, fi.1, by omega, h.wt⟩, by omega, by omega, by rintro rfl; simp at hW, fun v p n' st' H' t g o c => q v p n' st' H' t g ⟨o.ok, by have := o.deep; omega, o.size, o.left, o.names⟩ (c8.trans c)⟩
  refine g_F (decide_eq_false hcall) ?_
  refine g_F rfl ?_
  have preI : ∀ {H8 : Hp} {n8 : Int} {st8 A : List Str} {want8 : Str}, GenAt H8 pen L world scope left stock W sc n8 st8 → Chg3 pen left stock H7 H8 → Used st st8 A → 0 ≤ n8 → want8 ∈ [("number" : Str), "pair", "any"] →
      PartPre H8 pen L world scope inner left stock W sc (D - 1) n8 st8 want8 := fun g8 c8 u8 h8 hw8 => ⟨g8, h.w, h.nm.go u8, h8, c8 _ _ fi.1 ei, fi.1, by omega, hw8⟩
  walk_at "go"
  refine g_F (decide_eq_false hcall) ?_
  walk_at "go"
  by_cases hlet : word = "let"
  · refine g_T (decide_eq_true hlet) ?_
    walk_at "go"
    exact ⟨pen, L, world, scope, inner, left, stock, W, sc, D - 1, n, st, want, rfl, preI g7 .refl .refl h.n0 h.wt, by omega, fun v p n' st' H' t g o c => q v p n' st' H' t g ⟨o.ok, by have := o.deep; omega, o.size, o.left, o.names⟩ (c7.trans c)⟩
  refine g_F (decide_eq_false hlet) ?_
  walk_at "go"
  have hk4 : word ∈ [("side" : Str), "pair", "when", "op"] := by
    simp only [kinds7, List.mem_cons, List.not_mem_nil, or_false] at hk ⊢
    rcases hk with h | h | h | h | h | h | h
    · exact .inr (.inr (.inr h))
    · exact .inr (.inr (.inl h))
    · exact .inl h
    · exact absurd h hlet
    · exact absurd h hcall
    · exact absurd h hleaf
    · exact .inr (.inl h)
  obtain ⟨many, hmany⟩ : ∃ many : Nat, valV (mergeK [] kv4) (Sum.inr word) = some (.int many) ∧ (word = "side" → many = 1) ∧ (word = "pair" → many = 2) ∧ (word = "when" → many = 3) ∧ (word = "op" → many = 2) := by
    simp only [List.mem_cons, List.not_mem_nil, or_false] at hk4
    rcases hk4 with rfl | rfl | rfl | rfl
    · exact ⟨1, by decide +kernel⟩
    · exact ⟨2, by decide +kernel⟩
    · exact ⟨3, by decide +kernel⟩
    · exact ⟨2, by decide +kernel⟩
  obtain ⟨hmany, hmside, hmpair, hmwhen, hmop⟩ := hmany
  intro d8 H8 nd8 ed8 s8
  walk_at "go"
  refine g_pairs kv4 ed8 rfl (by decide) fun H9 ed9 c9 => ?_
  have s9 : Same H7 H9 := Same.chg s8 nd8 c9
  have g9 := g7.same s9
  walk_at "go"
  refine g_ixD ed9 (k := .inr word) rfl hmany ?_
  walk_at "go"
  refine ⟨pen, L, room, left, stock, D, n, many, st, rfl, g9.r, s9 _ _ hr7', fun _ => ?_, fun hfit H10 r10 c10 => ?_⟩
  · walk_at "go"
    refine g_T rfl ?_
    walk_at "go"
    exact leafy g9 (.same s9)
  walk_at "go"
  refine g_F rfl ?_
  walk_at "go"
  have g10 := g9.go r10 (.ofl c10)
  have c10' : Chg3 pen left stock H7 H10 := .trans (.same s9) (.ofl c10)
  have hM : ∀ (v : V) (p : Part) (n' : Int) (st' : List Str) (H' : Hp), Tp H' v p.data → GenAt H' pen L world scope left stock W sc n' st' → p.ok (W.map (·.1)) sc → p.deep ≤ D.toNat + 1 → (p.size : Int) + n' ≤ 1 + n → 0 ≤ n' → Used st st' p.rowNames → Chg3 pen left stock H10 H' → Q v H' :=
    fun v p n' st' H' t g h1 h2 h3 h4 h5 c => q v p n' st' H' t g ⟨h1, h2, h3, h4, h5⟩ (c7.trans (c10'.trans c))
  by_cases hside : word = "side"
  · refine g_T (decide_eq_true hside) ?_
    walk_at "go"
    intro l11 H11 nl11 el11 s11
    walk_at "go"
    have g11 := g10.same s11
    refine g_draw g11.r.pe (by decide) (by decide) fun y H12 y0 y1 hP12 c12 => ?_
    have g12 := g11.draw hP12 c12
    obtain ⟨k1, hk1⟩ : ∃ k1 : K1, atI [V.str "left", V.str "right"] y = some (.str k1.word) := by
      obtain ⟨v, h1, h2, _⟩ := atI_in (xs := [V.str "left", V.str "right"]) y0 y1
      simp only [List.mem_cons, List.not_mem_nil, or_false] at h2
      rcases h2 with rfl | rfl
      · exact ⟨.left, h1⟩
      · exact ⟨.right, h1⟩
    refine g_ixL (.of (c12 _ _ (g10.free nl11).1.p el11)) hk1 ?_
    walk_at "go"
    have c12' : Chg3 pen left stock H10 H12 := .trans (.same s11) (.ofp c12)
    refine ⟨pen, L, world, scope, inner, left, stock, W, sc, D - 1, n - many, st, "pair", rfl, preI g12 (c10'.trans c12') .refl (by omega) (by simp), by omega, fun v p n' st' H13 t g o c => ?_⟩
    walk_at "go"
    intro a14 H14 na14 ea14 s14
    have := o.deep
    have := o.size
    have := hmside hside
    exact hM (.ref a14) (.one k1 p) n' st' H14 (.tup ea14 (.cons (.str _) (.one (t.mono (Same.tk s14))))) (g.same s14) o.ok (by show 1 + p.deep ≤ _; omega) (by show ((1 + p.size : Nat) : Int) + _ ≤ _; omega) o.left o.names (c12'.trans (c.trans (.same s14)))
  refine g_F (decide_eq_false hside) ?_
  walk_at "go"
  intro l11 H11 nl11 el11 s11
  have g11 := g10.same s11
  walk_at "go"
  obtain ⟨w1, hw1, hwm1⟩ : ∃ w1 : Str, atI [V.str "number", V.str "any"] (if decide (word = "pair") = true then 1 else 0) = some (.str w1) ∧ w1 ∈ [("number" : Str), "pair", "any"] := by
    split
    · exact ⟨"any", rfl, by simp⟩
    · exact ⟨"number", rfl, by simp⟩
  refine g_ixL (.of el11) hw1 ?_
  walk_at "go"
  have c11 : Chg3 pen left stock H10 H11 := .same s11
  refine ⟨pen, L, world, scope, inner, left, stock, W, sc, D - 1, n - many, st, w1, rfl, preI g11 (c10'.trans c11) .refl (by omega) hwm1, by omega, fun v1 p1 n1 st1 H12 t1 g12 o1 c12 => ?_⟩
  walk_at "go"
  intro d13 H13 nd13 ed13 s13
  walk_at "go"
  refine g_pairs [(.inr "pair", .str "any"), (.inr "when", .str want), (.inr "op", .str "number")] ed13 rfl (by show 3 ≤ 15; decide) fun H14 ed14 c14 => ?_
  have s14 : Same H12 H14 := Same.chg s13 nd13 c14
  have g14 := g12.same s14
  walk_at "go"
  obtain ⟨w2, hw2, hwm2⟩ : ∃ w2 : Str, valV (mergeK [] [(.inr "pair", .str "any"), (.inr "when", .str want), (.inr "op", .str "number")]) (Sum.inr word) = some (.str w2) ∧ w2 ∈ [("number" : Str), "pair", "any"] := by
    simp only [List.mem_cons, List.not_mem_nil, or_false] at hk4
    rcases hk4 with rfl | rfl | rfl | rfl
    · exact absurd rfl hside
    · exact ⟨"any", rfl, by simp⟩
    · exact ⟨want, rfl, h.wt⟩
    · exact ⟨"number", rfl, by simp⟩
  refine g_ixD ed14 (k := .inr word) rfl hw2 ?_
  walk_at "go"
  have c14' : Chg3 pen left stock H10 H14 := c11.trans (c12.trans (.same s14))
  refine ⟨pen, L, world, scope, inner, left, stock, W, sc, D - 1, n1, st1, w2, rfl, preI g14 (c10'.trans c14') o1.names o1.left hwm2, by omega, fun v2 p2 n2 st2 H15 t2 g15 o2 c15 => ?_⟩
  have t1' : Tp H15 v1 p1.data := (t1.mono (Same.tk s14)).mono (g14.r.tk c15 g15.r)
  have u2 := Used.app o1.names o2.names h.nm.nd
  have c15' : Chg3 pen left stock H10 H15 := c14'.trans c15
  have hd1 := o1.deep
  have hd2 := o2.deep
  have hz1 := o1.size
  have hz2 := o2.size
  walk_at "go"
  by_cases hpair : word = "pair"
  · refine g_T (decide_eq_true hpair) ?_
    walk_at "go"
    intro a16 H16 na16 ea16 s16
    have := hmpair hpair
    exact hM (.ref a16) (.two .pair p1 p2) n2 st2 H16 (.tup ea16 (.cons (.str _) (.cons (t1'.mono (Same.tk s16)) (.one (t2.mono (Same.tk s16)))))) (g15.same s16) ⟨o1.ok, o2.ok⟩ (by show 1 + max _ _ ≤ _; omega) (by show ((1 + (p1.size + p2.size) : Nat) : Int) + _ ≤ _; omega) o2.left u2 (c15'.trans (.same s16))
  refine g_F (decide_eq_false hpair) ?_
  walk_at "go"
  by_cases hwhen : word = "when"
  · refine g_T (decide_eq_true hwhen) ?_
    walk_at "go"
    refine ⟨pen, L, world, scope, inner, left, stock, W, sc, D - 1, n2, st2, want, rfl, preI g15 (c10'.trans c15') u2 o2.left h.wt, by omega, fun v3 p3 n3 st3 H16 t3 g16 o3 c16 => ?_⟩
    walk_at "go"
    intro a17 H17 na17 ea17 s17
    have k16 := g15.r.tk c16 g16.r
    have hd3 := o3.deep
    have hz3 := o3.size
    have := hmwhen hwhen
    have u3 := u2.app o3.names h.nm.nd
    rw [List.append_assoc] at u3
    exact hM (.ref a17) (.whn p1 p2 p3) n3 st3 H17 (.tup ea17 (.cons (.str _) (.cons ((t1'.mono k16).mono (Same.tk s17)) (.cons ((t2.mono k16).mono (Same.tk s17)) (.one (t3.mono (Same.tk s17))))))) (g16.same s17) ⟨o1.ok, o2.ok, o3.ok⟩ (by show 1 + max _ (max _ _) ≤ _; omega) (by show ((1 + (p1.size + (p2.size + p3.size)) : Nat) : Int) + _ ≤ _; omega) o3.left u3 (c15'.trans (c16.trans (.same s17)))
  refine g_F (decide_eq_false hwhen) ?_
  walk_at "go"
  have hop : word = "op" := by
    simp only [List.mem_cons, List.not_mem_nil, or_false] at hk4
    rcases hk4 with h | h | h | h
    · exact absurd h hside
    · exact absurd h hpair
    · exact absurd h hwhen
    · exact h
  intro l16 H16 nl16 el16 s16
  walk_at "go"
  have g16 := g15.same s16
  refine g_draw g16.r.pe (by decide) (by decide) fun y H17 y0 y1 hP17 c17 => ?_
  have g17 := g16.draw hP17 c17
  obtain ⟨k2, hk2⟩ : ∃ k2 : K2, atI [V.str "plus", V.str "less", V.str "times", V.str "below"] y = some (.str k2.word) := by
    obtain ⟨v, h1, h2, _⟩ := atI_in (xs := [V.str "plus", V.str "less", V.str "times", V.str "below"]) y0 y1
    simp only [List.mem_cons, List.not_mem_nil, or_false] at h2
    rcases h2 with rfl | rfl | rfl | rfl
    · exact ⟨.plus, h1⟩
    · exact ⟨.less, h1⟩
    · exact ⟨.times, h1⟩
    · exact ⟨.below, h1⟩
  refine g_ixL (.of (c17 _ _ (g15.free nl16).1.p el16)) hk2 ?_
  walk_at "go"
  intro a18 H18 na18 ea18 s18
  have c18 : Chg3 pen left stock H15 H17 := .trans (.same s16) (.ofp c17)
  have k17 := g15.r.tk c18 g17.r
  have := hmop hop
  exact hM (.ref a18) (.two k2 p1 p2) n2 st2 H18 (.tup ea18 (.cons (.str _) (.cons ((t1'.mono k17).mono (Same.tk s18)) (.one ((t2.mono k17).mono (Same.tk s18)))))) (g17.same s18) ⟨o1.ok, o2.ok⟩ (by show 1 + max _ _ ≤ _; omega) (by show ((1 + (p1.size + p2.size) : Nat) : Int) + _ ≤ _; omega) o2.left u2 (c15'.trans (c18.trans (.same s18)))

/-! ### a loop -/
theorem Part.size_pos : ∀ p : Part, 1 ≤ p.size
  | .num _ => Nat.le_refl _
  | .name _ => Nat.le_refl _
  | .fn _ => Nat.le_refl _
  | .one _ _ => Nat.le_add_right _ _
  | .two _ _ _ => Nat.le_add_right _ _
  | .whn _ _ _ => Nat.le_add_right _ _
  | .letp _ _ => Nat.le_add_right _ _
  | .shut _ => Nat.le_refl _
theorem cut_from {ss : List Str} (k : Nat) (h : k ≤ ss.length) : cutV (ss.map V.str) (some (k : Int)) none = (ss.drop k).map V.str := by
  unfold cutV
  rw [HT.sIx_none, HT.sIx_nat, List.length_map, Nat.min_eq_left h, ← List.map_drop, List.take_of_length_le (by rw [List.length_map, List.length_drop]; exact Nat.le_refl _)]
theorem cut_to {ss : List Str} (k : Nat) : cutV (ss.map V.str) none (some (k : Int)) = (ss.take k).map V.str := by
  unfold cutV
  rw [HT.sIx_none, HT.sIx_nat, List.length_map, Nat.sub_zero, List.drop_zero, ← List.map_take]
  by_cases h : k ≤ ss.length
  · rw [Nat.min_eq_left h]
  · rw [Nat.min_eq_right (by omega), List.take_of_length_le (Nat.le_refl _), List.take_of_length_le (by omega)]
structure LoopPre (H : Hp) (pen L world scope room left stock : Addr) (W : List (Str × Nat)) (me : Str) (sc : List Str) (n : Int) (st : List Str) : Prop where
  g : GenAt H pen L world scope left stock W sc n st
  w : WorldOk W
  nm : NamesOk sc st
  n0 : 0 ≤ n
  rm : ∃ D : Int, H room = some (.lst [.int D, .ref left, .ref stock])
  fr : Fix pen left stock room
  me : me ∈ W.map (·.1)
  sc0 : sc ≠ []
  sc4 : sc.length ≤ 4
def spLoop : Sp := fun vs H Q _ => ∃ (pen L world scope room left stock : Addr) (W : List (Str × Nat)) (me : Str) (sc : List Str) (n : Int) (st : List Str), vs = [.ref pen, .ref world, .str me, .ref scope, .ref room] ∧
  LoopPre H pen L world scope room left stock W me sc n st ∧
  ∀ (v : V) (p : Part) (n' : Int) (st' : List Str) (H' : Hp), Tp H' v p.data → GenAt H' pen L world scope left stock W sc n' st' → p.ok (W.map (·.1)) sc → p.deep ≤ 8 → (p.size : Int) + n' ≤ 16 + n → 0 ≤ n' → Used st st' p.rowNames → Chg3 pen left stock H H' → Q v H'
theorem pure_loop {K : PySem.W.Frag} {w : World} : PureOk 5 spLoop (t_law_loop K w (spPart 12) spDraw) 10 := by
  refine ⟨fun vs H Q E ⟨_, _, _, _, _, _, _, _, _, _, _, _, e, _⟩ => by rw [e]; rfl, ?_⟩
  rintro vs H Q E ⟨pen, L, world, scope, room, left, stock, W, me, sc, n, st, rfl, h, q⟩
  show t_law_loop K w _ _ _ [some (.ref pen), some (.ref world), some (.str me), some (.ref scope), some (.ref room), none, none, none, none, none] H
  unfold t_law_loop
  obtain ⟨D, hrm⟩ := h.rm
  obtain ⟨x0, sc', hsc⟩ : ∃ x0 sc', sc = x0 :: sc' := by
    have := h.sc0
    cases sc with
    | nil => exact absurd rfl this
    | cons a b => exact ⟨a, b, rfl⟩
  have hx0 : ∀ {H' : Hp}, H' scope = some (.lst (sc.map V.str)) → ∃ xs, SqL K H' scope xs ∧ atI xs 0 = some (.str x0) := fun e => ⟨_, .of e, atI_of (by decide) (by rw [hsc]; rfl)⟩
  have hx0m : x0 ∈ sc := by rw [hsc]; simp
  have okx0 : x0 ∈ sc ∧ isName x0 := ⟨hx0m, h.nm.nsc x0 hx0m⟩
  have hmeN : isName me := by
    obtain ⟨p, hp, e⟩ := List.mem_map.mp h.me
    rw [← e]
    exact (h.w.2 p hp).1
  walk_at "go"
  intro a1 H1 na1 ea1 s1
  walk_at "go"
  have g1 := h.g.same s1
  obtain ⟨_, q1, q2⟩ := hx0 g1.gsc
  refine g_ixL q1 q2 ?_
  walk_at "go"
  intro a2 H2 na2 ea2 s2
  walk_at "go"
  intro a3 H3 na3 ea3 s3
  walk_at "go"
  intro a4 H4 na4 ea4 s4
  walk_at "go"
  intro a5 H5 na5 ea5 s5
  walk_at "go"
  have g5 := (((g1.same s2).same s3).same s4).same s5
  have t1 : Tp H5 (.ref a5) (Part.two .give (.fn me) (.two .less (.name x0) (.num 1))).data := by
    have k : Tk H1 H5 := ((Same.tk s2).trans (Same.tk s3)).trans ((Same.tk s4).trans (Same.tk s5))
    have k2 : Tk H2 H5 := (Same.tk s3).trans ((Same.tk s4).trans (Same.tk s5))
    have k3 : Tk H3 H5 := (Same.tk s4).trans (Same.tk s5)
    have k4 : Tk H4 H5 := Same.tk s5
    refine .tup ea5 (.cons (.str _) (.cons ((tp_fn ea1).mono k) (.one ?_)))
    refine .tup (k4 _ _ ea4) (.cons (.str _) (.cons ((tp_name ea2).mono k2) (.one ((tp_num ea3).mono k3))))
  have s05 : Same H H5 := (s1.trans (s2.trans (s3.trans (s4.trans s5))))
  clear na1 na2 na3 na4 na5 ea1 ea2 ea3 ea4 ea5 s1 s2 s3 s4 s5 g1 q1 q2
  refine g_seqL ?_
  walk_at "go"
  refine g_slL (.of g5.gsc) fun ls H6 nl el s6 => ?_
  rw [show (some (1 : Int)) = some ((1 : Nat) : Int) from rfl, cut_from 1 (by rw [hsc]; simp)] at el
  refine g_isL (.of el) ?_
  have hlr : (sc.drop 1).length ≤ 3 := by rw [List.length_drop]; have := h.sc4; omega
  have c6 : Chg3 pen left stock H H6 := .same (s05.trans s6)
  have g6 := g5.same s6
  have fl := g5.r.new nl
  refine for_any (sc.drop 1).length (fun i σ H' => ∃ (x y : Option V) (v : V) (p : Part) (n' : Int) (st' : List Str), σ = [some (.ref pen), some (.ref world), some (.str me), some (.ref scope), some (.ref room), some v, x, y, none, none] ∧
      Tp H' v p.data ∧ GenAt H' pen L world scope left stock W sc n' st' ∧ p.ok (W.map (·.1)) sc ∧ p.deep ≤ 3 + i ∧ (p.size : Int) + n' ≤ 5 + n + 2 * i ∧ 0 ≤ n' ∧ Used st st' p.rowNames ∧ Chg3 pen left stock H6 H')
    ⟨none, none, .ref a5, _, n, st, rfl, t1.mono (Same.tk s6), g6, ⟨⟨h.me, hmeN⟩, okx0, by show (1 : Int).natAbs < _; decide⟩, by show 1 + max 1 (1 + max 1 1) ≤ _; omega, by show ((1 + (1 + (1 + (1 + 1))) : Nat) : Int) + _ ≤ _; omega, h.n0, .refl, .refl⟩
    (fun i σ H' hi ⟨_, _, _, _, _, _, _, _, _, _, _, _, _, _, c⟩ => ⟨_, _, .of (c _ _ fl el), List.getElem?_eq_getElem (by rw [List.length_map]; exact hi)⟩) (fun σ H' ⟨_, _, _, _, _, _, _, _, _, _, _, _, _, _, c⟩ => ⟨_, .of (c _ _ fl el), by rw [List.length_map]; exact Nat.le_refl _⟩) ?_ ?_
  · rintro i x σ _ H7 hi ⟨x6, x7, v, p, n', st', rfl, tv, g7, ok7, d7, z7, n7, u7, c7⟩ ⟨rfl, hx⟩
    obtain ⟨nm, hnmi, rfl⟩ : ∃ nm, nm ∈ sc.drop 1 ∧ x = .str nm := by
      have h1 := hx _ (.of (c7 _ _ fl el))
      rw [List.getElem?_map] at h1
      obtain ⟨nm, h2, h3⟩ := Option.map_eq_some_iff.mp h1
      exact ⟨nm, List.mem_of_getElem? h2, h3.symm⟩
    have hnms : nm ∈ sc := List.mem_of_mem_drop hnmi
    have hr7 := c7 _ _ h.fr (c6 _ _ h.fr hrm)
    walk_at "go"
    intro rm2 H8 nr er s8
    walk_at "go"
    have g8 := g7.same s8
    have fr2 := g7.r.new nr
    refine ⟨pen, L, world, scope, rm2, left, stock, W, sc, 2, n', st', "any", rfl, ⟨g8, h.w, h.nm.go u7, n7, er, fr2, by decide, by simp⟩, by decide, fun v2 p2 n2 st2 H9 t2 g9 o9 c9 => ?_⟩
    have c9' : Chg3 pen left stock H7 H9 := .trans (.same s8) c9
    have tv9 := tv.mono (g7.r.tk c9' g9.r)
    walk_at "go"
    intro a10 H10 na10 ea10 s10
    walk_at "go"
    intro l11 H11 nl11 el11 s11
    walk_at "go"
    have g11 := (g9.same s10).same s11
    refine g_draw g11.r.pe (by decide) (by decide) fun y H12 y0 y1 hP12 c12 => ?_
    have g12 := g11.draw hP12 c12
    have k12 : Tk H9 H12 := ((Same.tk s10).trans (Same.tk s11)).trans (g11.r.tk (.ofp c12) g12.r)
    have c12' : Chg3 pen left stock H7 H12 := c9'.trans (.trans (.same s10) (.trans (.same s11) (.ofp c12)))
    obtain ⟨v3, p3, hv3, tv3, ok3, d3, z3, u3⟩ : ∃ (v3 : V) (p3 : Part), atI [.ref a10, v2] y = some v3 ∧ Tp H12 v3 p3.data ∧ p3.ok (W.map (·.1)) sc ∧ p3.deep ≤ 3 ∧ (p3.size : Int) + n2 ≤ 1 + n' ∧ Used st' st2 p3.rowNames := by
      by_cases hy : y = 0
      · subst hy
        have := o9.size
        have := p2.size_pos
        refine ⟨.ref a10, .name nm, rfl, (tp_name ea10).mono ((Same.tk s11).trans (g11.r.tk (.ofp c12) g12.r)), ⟨hnms, h.nm.nsc _ hnms⟩, by show 1 ≤ 3; decide, by show ((1 : Nat) : Int) + _ ≤ _; omega, Used.left o9.names⟩
      · have hy1 : y = 1 := by omega
        subst hy1
        exact ⟨v2, p2, rfl, t2.mono k12, o9.ok, o9.deep, o9.size, o9.names⟩
    refine g_ixL (.of (c12 _ _ ((g9.same s10).r.new nl11).p el11)) hv3 ?_
    walk_at "go"
    intro a13 H13 na13 ea13 s13
    walk_at "go"
    refine ⟨_, _, .ref a13, .two .give p p3, n2, st2, rfl, ?_, g12.same s13, ⟨ok7, ok3⟩, ?_, ?_, o9.left, u7.app u3 h.nm.nd, c7.trans (c12'.trans (.same s13))⟩
    · exact .tup ea13 (.cons (.str _) (.cons ((tv9.mono k12).mono (Same.tk s13)) (.one (tv3.mono (Same.tk s13)))))
    · show 1 + max _ _ ≤ _
      omega
    · show ((1 + (p.size + p3.size) : Nat) : Int) + _ ≤ _
      omega
  rintro σ H7 ⟨x6, x7, v, p, n', st', rfl, tv, g7, ok7, d7, z7, n7, u7, c7⟩
  have hr7 := c7 _ _ h.fr (c6 _ _ h.fr hrm)
  walk_at "go"
  intro rm2 H8 nr er s8
  walk_at "go"
  have g8 := g7.same s8
  have fr2 := g7.r.new nr
  refine ⟨pen, L, world, scope, rm2, left, stock, W, sc, 3, n', st', "number", rfl, ⟨g8, h.w, h.nm.go u7, n7, er, fr2, by decide, by simp⟩, by decide, fun v2 p2 n2 st2 H9 t2 g9 o9 c9 => ?_⟩
  have c9' : Chg3 pen left stock H7 H9 := .trans (.same s8) c9
  have tv9 := tv.mono (g7.r.tk c9' g9.r)
  have hd2 : p2.deep ≤ 4 := o9.deep
  have hz2 := o9.size
  walk_at "go"
  intro a10 H10 na10 ea10 s10
  walk_at "go"
  intro a11 H11 na11 ea11 s11
  walk_at "go"
  intro a12 H12 na12 ea12 s12
  walk_at "go"
  intro l13 H13 nl13 el13 s13
  walk_at "go"
  have s913 : Same H9 H13 := s10.trans (s11.trans (s12.trans s13))
  have g13 := g9.same s913
  have g12 := g9.same (s10.trans (s11.trans s12))
  refine g_draw g13.r.pe (by decide) (by decide) fun y H14 y0 y1 hP14 c14 => ?_
  have g14 := g13.draw hP14 c14
  have k1314 := g13.r.tk (.ofp c14) g14.r
  have k14 : Tk H9 H14 := (Same.tk s913).trans k1314
  have c14' : Chg3 pen left stock H7 H14 := c9'.trans (.trans (.same s913) (.ofp c14))
  have tv14 := tv9.mono k14
  have t214 := t2.mono k14
  obtain ⟨v3, p3, hv3, tv3, ok3, d3, z3, u3⟩ : ∃ (v3 : V) (p3 : Part), atI [v, .ref a10, .ref a11, .ref a12] y = some v3 ∧ Tp H14 v3 p3.data ∧ p3.ok (W.map (·.1)) sc ∧ p3.deep ≤ 7 ∧ (p3.size : Int) + n2 ≤ 2 + (p.size : Int) + n' ∧ Used st st2 p3.rowNames := by
    have := p2.size_pos
    obtain rfl | rfl | rfl | rfl : y = 0 ∨ y = 1 ∨ y = 2 ∨ y = 3 := by omega
    · exact ⟨v, p, rfl, tv14, ok7, by omega, by omega, Used.fst u7 o9.names⟩
    · refine ⟨.ref a10, .two .plus p2 p, rfl, .tup (k1314 _ _ (s13 _ _ (s12 _ _ (s11 _ _ ea10)))) (.cons (.str _) (.cons t214 (.one tv14))), ⟨o9.ok, ok7⟩, by show 1 + max _ _ ≤ _; omega, by show ((1 + (p2.size + p.size) : Nat) : Int) + _ ≤ _; omega, Used.swap u7 o9.names h.nm.nd⟩
    · refine ⟨.ref a11, .two .pair p2 p, rfl, .tup (k1314 _ _ (s13 _ _ (s12 _ _ ea11))) (.cons (.str _) (.cons t214 (.one tv14))), ⟨o9.ok, ok7⟩, by show 1 + max _ _ ≤ _; omega, by show ((1 + (p2.size + p.size) : Nat) : Int) + _ ≤ _; omega, Used.swap u7 o9.names h.nm.nd⟩
    · refine ⟨.ref a12, .two .plus p p2, rfl, .tup (k1314 _ _ (s13 _ _ ea12)) (.cons (.str _) (.cons tv14 (.one t214))), ⟨ok7, o9.ok⟩, by show 1 + max _ _ ≤ _; omega, by show ((1 + (p.size + p2.size) : Nat) : Int) + _ ≤ _; omega, Used.app u7 o9.names h.nm.nd⟩
  refine g_ixL (.of (c14 _ _ (g12.r.new nl13).p el13)) hv3 ?_
  walk_at "go"
  obtain ⟨_, q1, q2⟩ := hx0 g14.gsc
  refine g_ixL q1 q2 ?_
  walk_at "go"
  intro a15 H15 na15 ea15 s15
  walk_at "go"
  have hr15 := s15 _ _ (c14' _ _ h.fr hr7)
  walk_at "go"
  intro rm3 H16 nr3 er3 s16
  walk_at "go"
  have g15 := g14.same s15
  have g16 := g15.same s16
  have fr3 := g15.r.new nr3
  have u9 : Used st st2 [] := Used.left u3
  refine ⟨pen, L, world, scope, rm3, left, stock, W, sc, 3, n2, st2, "number", rfl, ⟨g16, h.w, h.nm.go u9, o9.left, er3, fr3, by decide, by simp⟩, by decide, fun v4 p4 n4 st4 H17 t4 g17 o17 c17 => ?_⟩
  walk_at "go"
  intro a18 H18 na18 ea18 s18
  have c17' : Chg3 pen left stock H15 H17 := .trans (.same s16) c17
  have k17 := g15.r.tk c17' g17.r
  have hd4 : p4.deep ≤ 4 := o17.deep
  have hz4 := o17.size
  refine q (.ref a18) (.whn (.name x0) p3 p4) n4 st4 H18 ?_ (g17.same s18) ⟨okx0, ok3, o17.ok⟩ ?_ ?_ o17.left (show Used st st4 (p3.rowNames ++ p4.rowNames) from Used.app u3 o17.names h.nm.nd) (c6.trans (c7.trans (c14'.trans (.trans (.same s15) (c17'.trans (.same s18))))))
  · exact .tup ea18 (.cons (.str _) (.cons (((tp_name ea15).mono k17).mono (Same.tk s18)) (.cons (((tv3.mono (Same.tk s15)).mono k17).mono (Same.tk s18)) (.one (t4.mono (Same.tk s18))))))
  · show 1 + max 1 (max _ _) ≤ _
    omega
  · show ((1 + (1 + (p3.size + p4.size)) : Nat) : Int) + _ ≤ _
    omega

/-! ### a body -/
structure BodyAt (H : Hp) (pen L world scope stock : Addr) (W : List (Str × Nat)) (sc st : List Str) : Prop where
  pe : PenAt H pen L
  w : WorldAt H world W
  gsc : H scope = some (.lst (sc.map V.str))
  sk : H stock = some (.lst (st.map V.str))
  wp : world ≠ pen
  ws : world ≠ stock
  cp : scope ≠ pen
  cs : scope ≠ stock
  sp : stock ≠ pen
  sL : stock ≠ L
structure BodyOk (W : List (Str × Nat)) (me : Str) (sc st : List Str) : Prop where
  w : WorldOk W
  nm : NamesOk sc st
  me : me = "" ∨ me ∈ W.map (·.1)
  sc4 : sc.length ≤ 4
/-- all but the pen and the stock stay -/
def Chg2 (pen stock : Addr) (H H' : Hp) : Prop := ∀ b o, b ≠ pen → b ≠ stock → H b = some o → H' b = some o
section
variable {H H' H1 H2 : Hp} {pen L world scope stock l rm : Addr} {W : List (Str × Nat)} {me : Str} {sc st : List Str} {n D : Int}
theorem BodyAt.same (h : BodyAt H pen L world scope stock W sc st) (s : Same H H') : BodyAt H' pen L world scope stock W sc st :=
  ⟨h.pe.same s, h.w.mono (Same.tk s) (fun o e => s _ _ e), s _ _ h.gsc, s _ _ h.sk, h.wp, h.ws, h.cp, h.cs, h.sp, h.sL⟩
theorem PenAt.tk (h : PenAt H pen L) (c : Chg pen H H') : Tk H H' := by
  obtain ⟨ns, a, r, hp, _⟩ := h
  exact c.tkl hp
theorem BodyAt.draw (h : BodyAt H pen L world scope stock W sc st) (p : PenAt H' pen L) (c : Chg pen H H') : BodyAt H' pen L world scope stock W sc st :=
  ⟨p, h.w.mono (h.pe.tk c) (fun o e => c _ _ h.wp e), c _ _ h.cp h.gsc, c _ _ h.sp h.sk, h.wp, h.ws, h.cp, h.cs, h.sp, h.sL⟩
/-- with a list of what is left, a room -/
theorem BodyAt.gen (h : BodyAt H pen L world scope stock W sc st) (hl : H l = none) (el : H1 l = some (.lst [.int n])) (s1 : Same H H1) (s2 : Same H1 H2) : GenAt H2 pen L world scope l stock W sc n st := by
  have h1 := (h.same s1).same s2
  obtain ⟨ns, a, r, hp, hL, _⟩ := h.pe
  obtain ⟨xs, hw, _⟩ := h.w
  exact ⟨⟨h1.pe, s2 _ _ el, h1.sk, (ne_of_none hp hl).symm, (ne_of_none hL hl).symm, h.sp, h.sL, (ne_of_none h.sk hl).symm⟩, h1.w, h1.gsc, ⟨h.wp, ne_of_none hw hl, h.ws⟩, ⟨h.cp, ne_of_none h.gsc hl, h.cs⟩⟩
end
def spBody : Sp := fun vs H Q _ => ∃ (pen L world scope stock : Addr) (W : List (Str × Nat)) (me : Str) (sc st : List Str), vs = [.ref pen, .ref world, .str me, .ref scope, .ref stock] ∧ BodyAt H pen L world scope stock W sc st ∧ BodyOk W me sc st ∧
  ∀ (v : V) (p : Part) (H' : Hp), Tp H' v p.data → PenAt H' pen L → p.ok (W.map (·.1)) sc → p.deep ≤ 12 → p.size ≤ 60 → p.rowNames.Nodup → (∀ x ∈ p.rowNames, x ∈ st) → Chg2 pen stock H H' → Q v H'
theorem pure_body {K : PySem.W.Frag} {w : World} : PureOk 5 spBody (t_law_body K w spDraw spLoop (spPart 12)) 9 := by
  refine ⟨fun vs H Q E ⟨_, _, _, _, _, _, _, _, _, e, _⟩ => by rw [e]; rfl, ?_⟩
  rintro vs H Q E ⟨pen, L, world, scope, stock, W, me, sc, st, rfl, h, hO, q⟩
  show t_law_body K w _ _ _ _ [some (.ref pen), some (.ref world), some (.str me), some (.ref scope), some (.ref stock), none, none, none, none] H
  unfold t_law_body
  walk_at "go"
  intro l1 H1 nl1 el1 s1
  walk_at "go"
  have b1 := h.same s1
  refine g_draw b1.pe (by decide) (by decide) fun y H2 y0 y1 hP2 c2 => ?_
  obtain ⟨D, hD, hD0, hD1⟩ : ∃ D : Int, atI [V.int 2, V.int 7, V.int 9, V.int 11] y = some (.int D) ∧ 0 ≤ D ∧ D ≤ 11 := by
    obtain rfl | rfl | rfl | rfl : y = 0 ∨ y = 1 ∨ y = 2 ∨ y = 3 := by omega
    all_goals exact ⟨_, rfl, by decide, by decide⟩
  refine g_ixL (.of (c2 _ _ (h.pe.ne nl1).1.symm el1)) hD ?_
  have b2 := b1.draw hP2 c2
  walk_at "go"
  intro l3 H3 nl3 el3 s3
  walk_at "go"
  have b3 := b2.same s3
  refine g_draw b3.pe (by decide) (by decide) fun z H4 z0 z1 hP4 c4 => ?_
  obtain ⟨n, hn, hn0, hn1⟩ : ∃ n : Int, atI [V.int 2, V.int 7, V.int 14, V.int 24, V.int 40, V.int 59] z = some (.int n) ∧ 0 ≤ n ∧ n ≤ 59 := by
    obtain rfl | rfl | rfl | rfl | rfl | rfl : z = 0 ∨ z = 1 ∨ z = 2 ∨ z = 3 ∨ z = 4 ∨ z = 5 := by omega
    all_goals exact ⟨_, rfl, by decide, by decide⟩
  refine g_ixL (.of (c4 _ _ (b2.pe.ne nl3).1.symm el3)) hn ?_
  have b4 := b3.draw hP4 c4
  have c04 : Chg2 pen stock H H4 := fun b o n1 n2 e => c4 b o n1 (s3 b o (c2 b o n1 (s1 b o e)))
  -- the end that most ways have
  have fin : ∀ {H8 H9 H10 : Hp} {l rm : Addr}, BodyAt H8 pen L world scope stock W sc st → Chg2 pen stock H H8 → H8 l = none → H9 l = some (.lst [.int n]) → Same H8 H9 → H9 rm = none → H10 rm = some (.lst [.int D, .ref l, .ref stock]) → Same H9 H10 →
      spPart 12 ([.ref pen, .ref world, .ref scope, .ref rm, .str "any"] ++ []) H10 Q E0 := by
    intro H8 H9 H10 l rm b8 c8 hl el s9 hrm er s10
    have g10 := b8.gen hl el s9 s10
    have g9 := b8.gen hl el s9 (fun _ _ e => e)
    refine ⟨pen, L, world, scope, rm, l, stock, W, sc, D, n, st, "any", rfl, ⟨g10, hO.w, hO.nm, hn0, er, g9.r.new hrm, hD0, by simp⟩, by omega, fun v p n' st' H' t g o c => ?_⟩
    obtain ⟨u, hu, hu1, hu2⟩ := o.names
    have := o.deep
    have := o.size
    have := o.left
    exact q v p H' t g.r.pe o.ok (by omega) (by omega) hu1 (fun x hx => by rw [hu]; exact List.mem_append.mpr (.inr (hu2 x hx))) (fun b o n1 n2 e => c b o ⟨n1, ne_of_none (c8 b o n1 n2 e) hl, n2⟩ (s10 b o (s9 b o (c8 b o n1 n2 e))))
  clear hD hn z0 z1 y0 y1 c4 s3 c2 s1 el1 el3
  walk_at "go"
  by_cases hme : me = ""
  · -- what is asked
    subst hme
    refine g_F rfl ?_
    refine g_F rfl ?_
    walk_at "go"
    refine g_T rfl ?_
    walk_at "go"
    intro l5 H5 nl5 el5 s5
    have b5 := b4.same s5
    have c05 : Chg2 pen stock H H5 := fun b o n1 n2 e => s5 b o (c04 b o n1 n2 e)
    obtain ⟨wx, hw, tw⟩ := b5.w
    refine g_neD (.lst (.of hw) (Tps.dp tw)) (.lst (.of el5) .nil) (shaped_world hO.w) shaped_nil ?_
    rw [eqv_nil]
    walk_at "go"
    refine g_ite (fun hne => ?_) (fun _ => ?_)
    rotate_left
    · refine g_F rfl ?_
      walk_at "go"
      intro l H9 hl el s9
      walk_at "go"
      intro rm H10 hrm er s10
      walk_at "go"
      exact fin b5 c05 hl el s9 hrm er s10
    walk_at "go"
    refine g_draw b5.pe (by decide) (by decide) fun y H6 y0 y1 hP6 c6 => ?_
    have b6 := b5.draw hP6 c6
    have c06 : Chg2 pen stock H H6 := fun b o n1 n2 e => c6 b o n1 (c05 b o n1 n2 e)
    walk_at "go"
    refine g_ite (fun _ => ?_) (fun _ => ?_)
    rotate_left
    · walk_at "go"
      intro l H9 hl el s9
      walk_at "go"
      intro rm H10 hrm er s10
      walk_at "go"
      exact fin b6 c06 hl el s9 hrm er s10
    obtain ⟨f, k, W', hW⟩ : ∃ f k W', W = (f, k) :: W' := by
      cases W with
      | nil => simp at hne
      | cons x l => exact ⟨x.1, x.2, l, rfl⟩
    have hfW : (f, k) ∈ W := by rw [hW]; simp
    have first : ∀ {H' : Hp}, WorldAt H' world W → ∃ xs a, SqL K H' world xs ∧ atI xs 0 = some (.ref a) ∧ SqT K H' a [.str f, .int k] := by
      rintro H' ⟨xs, hx, tx⟩
      rw [hW] at tx
      cases tx with
      | cons t _ =>
        cases t with
        | tup et rt =>
          cases rt with
          | cons t1 rt =>
          cases t1
          cases rt with
          | cons t2 rt =>
          cases t2
          cases rt
          exact ⟨_, _, .of hx, atI_of (by decide) rfl, .of et⟩
    walk_at "go"
    obtain ⟨_, _, i1, i2, i3⟩ := first b6.w
    refine g_ixL i1 i2 ?_
    walk_at "go"
    refine g_ixT i3 (atI_of (by decide) rfl) ?_
    walk_at "go"
    intro a7 H7 na7 ea7 s7
    walk_at "go"
    have b7 := b6.same s7
    obtain ⟨_, _, j1, j2, j3⟩ := first b7.w
    refine g_ixL j1 j2 ?_
    walk_at "go"
    refine g_ixT j3 (atI_of (by decide) rfl) ?_
    walk_at "go"
    have hk : k ≤ 4 := (hO.w.2 _ hfW).2
    refine g_isrng (by omega) (by omega) ?_
    refine for_any k (fun i σ H' => ∃ (x : Option V) (v : V) (p : Part), σ = [some (.ref pen), some (.ref world), some (.str ""), some (.ref scope), some (.ref stock), some (.int D), some (.int n), some v, x] ∧
        Tp H' v p.data ∧ PenAt H' pen L ∧ p.ok (W.map (·.1)) sc ∧ p.deep ≤ 1 + i ∧ p.size ≤ 1 + 2 * i ∧ p.rowNames = [] ∧ Chg2 pen stock H7 H')
      ⟨none, _, .fn f, rfl, tp_fn ea7, b7.pe, ⟨List.mem_map.mpr ⟨_, hfW, rfl⟩, (hO.w.2 _ hfW).1⟩, by show 1 ≤ _; omega, by show 1 ≤ _; omega, rfl, fun b o _ _ e => e⟩
      (fun i σ H' hi _ => (by show (i : Nat) < _; omega)) (fun σ H' _ => (by show _ ≤ (k : Nat); omega)) ?_ ?_
    · rintro i x σ _ H8 hi ⟨x8, v, p, rfl, tv, hP8, ok8, d8, z8, r8, c8⟩ ⟨rfl, rfl⟩
      walk_at "go"
      refine g_draw hP8 (by decide) (by decide) fun y H9 y0 y1 hP9 c9 => ?_
      walk_at "go"
      intro a10 H10 na10 ea10 s10
      walk_at "go"
      intro a11 H11 na11 ea11 s11
      walk_at "go"
      refine ⟨_, _, .two .give p (.num y), rfl, ?_, (hP9.same s10).same s11, ⟨ok8, by show y.natAbs < 10 ^ 60; omega⟩, ?_, ?_, ?_, fun b o n1 n2 e => s11 b o (s10 b o (c9 b o n1 (c8 b o n1 n2 e)))⟩
      · exact .tup ea11 (.cons (.str _) (.cons (((tv.mono (hP8.tk c9)).mono (Same.tk s10)).mono (Same.tk s11)) (.one ((tp_num ea10).mono (Same.tk s11)))))
      · show 1 + max _ 1 ≤ _
        omega
      · show 1 + (_ + 1) ≤ _
        omega
      · show p.rowNames ++ [] = []
        rw [r8]
        rfl
    · rintro σ H8 ⟨x8, v, p, rfl, tv, hP8, ok8, d8, z8, r8, c8⟩
      walk_at "go"
      exact q v p H8 tv hP8 ok8 (by omega) (by omega) (by rw [r8]; exact List.nodup_nil) (by rw [r8]; simp) (fun b o n1 n2 e => c8 b o n1 n2 (s7 b o (c06 b o n1 n2 e)))
  · -- a function's
    refine g_T (by rw [decide_eq_false hme]; rfl) ?_
    walk_at "go"
    intro l5 H5 nl5 el5 s5
    have b5 := b4.same s5
    have c05 : Chg2 pen stock H H5 := fun b o n1 n2 e => s5 b o (c04 b o n1 n2 e)
    refine g_neD (.lst (.of b5.gsc) (Tps.dp (Tps.strs sc))) (.lst (.of el5) .nil) (shaped_names hO.nm.nsc) shaped_nil ?_
    rw [eqv_nil]
    walk_at "go"
    have meW : me ∈ W.map (·.1) := hO.me.elim (fun e => absurd e hme) id
    refine g_ite (fun hne => ?_) (fun _ => ?_)
    rotate_left
    · refine g_F rfl ?_
      walk_at "go"
      refine g_F (decide_eq_false hme) ?_
      refine g_F rfl ?_
      walk_at "go"
      intro l H9 hl el s9
      walk_at "go"
      intro rm H10 hrm er s10
      walk_at "go"
      exact fin b5 c05 hl el s9 hrm er s10
    walk_at "go"
    refine g_draw b5.pe (by decide) (by decide) fun y H6 y0 y1 hP6 c6 => ?_
    have b6 := b5.draw hP6 c6
    have c06 : Chg2 pen stock H H6 := fun b o n1 n2 e => c6 b o n1 (c05 b o n1 n2 e)
    walk_at "go"
    refine g_ite (fun _ => ?_) (fun _ => ?_)
    rotate_left
    · walk_at "go"
      refine g_F (decide_eq_false hme) ?_
      refine g_F rfl ?_
      walk_at "go"
      intro l H9 hl el s9
      walk_at "go"
      intro rm H10 hrm er s10
      walk_at "go"
      exact fin b6 c06 hl el s9 hrm er s10
    walk_at "go"
    intro l H9 hl el s9
    walk_at "go"
    intro rm H10 hrm er s10
    walk_at "go"
    have g10 := b6.gen hl el s9 s10
    have g9 := b6.gen hl el s9 (fun _ _ e => e)
    refine ⟨pen, L, world, scope, rm, l, stock, W, me, sc, min n 40, st, rfl, ⟨g10, hO.w, hO.nm, by omega, ⟨D, er⟩, g9.r.new hrm, meW, by rintro rfl; simp at hne, hO.sc4⟩, fun v p n' st' H' t g ok d z n0 u c => ?_⟩
    obtain ⟨u1, hu, hu1, hu2⟩ := u
    exact q v p H' t g.r.pe ok (by omega) (by omega) hu1 (fun x hx => by rw [hu]; exact List.mem_append.mpr (.inr (hu2 x hx))) (fun b o n1 n2 e => c b o ⟨n1, ne_of_none (c06 b o n1 n2 e) hl, n2⟩ (s10 b o (s9 b o (c06 b o n1 n2 e))))

/-! ### a program -/
section
variable {K : PySem.W.Frag} {σ : L2.St} {H : Hp} {Q : L2.St → Hp → Prop} {a : Addr} {x y z : V} {i j k : Nat}
theorem g_un2 (h : H a = some (.tup [x, y])) (q : Q ((σ.set i (some x)).set j (some y)) H) : gTup K 2 (gCons (gName i) (gCons (gName j) gNil)) (.ref a) σ H Q :=
  ⟨a, _, rfl, .of h, rfl, x, _, rfl, y, _, rfl, rfl, q⟩
theorem g_un3 (h : H a = some (.tup [x, y, z])) (q : Q (((σ.set i (some x)).set j (some y)).set k (some z)) H) : gTup K 3 (gCons (gName i) (gCons (gName j) (gCons (gName k) gNil))) (.ref a) σ H Q :=
  ⟨a, _, rfl, .of h, rfl, x, _, rfl, y, _, rfl, z, _, rfl, rfl, q⟩
theorem Tp.tup_inv {v : V} {ds : List PyData} (h : Tp H v (.tuple ds)) : ∃ a xs, v = .ref a ∧ H a = some (.tup xs) ∧ Tps H xs ds := by
  cases h with
  | tup e r => exact ⟨_, _, rfl, e, r⟩
theorem Tps.cons_inv {vs : List V} {d : PyData} {ds : List PyData} (h : Tps H vs (d :: ds)) : ∃ v us, vs = v :: us ∧ Tp H v d ∧ Tps H us ds := by
  cases h with
  | cons a b => exact ⟨_, _, rfl, a, b⟩
theorem Tps.nil_inv {vs : List V} (h : Tps H vs []) : vs = [] := by
  cases h
  rfl
theorem Tp.str_inv {v : V} {s : Str} (h : Tp H v (.str s)) : v = .str s := by
  cases h
  rfl
theorem Tp.int_inv {v : V} {n : Int} (h : Tp H v (.int n)) : v = .int n := by
  cases h
  rfl
/-- a tuple of two -/
theorem Tp.two {v : V} {d e : PyData} (h : Tp H v (.tuple [d, e])) : ∃ a x y, v = .ref a ∧ H a = some (.tup [x, y]) ∧ Tp H x d ∧ Tp H y e := by
  obtain ⟨a, xs, rfl, h1, h2⟩ := h.tup_inv
  obtain ⟨x, us, rfl, tx, h3⟩ := h2.cons_inv
  obtain ⟨y, us, rfl, ty, h4⟩ := h3.cons_inv
  rw [h4.nil_inv] at h1
  exact ⟨a, x, y, rfl, h1, tx, ty⟩
theorem Tp.three {v : V} {d e f : PyData} (h : Tp H v (.tuple [d, e, f])) : ∃ a x y z, v = .ref a ∧ H a = some (.tup [x, y, z]) ∧ Tp H x d ∧ Tp H y e ∧ Tp H z f := by
  obtain ⟨a, xs, rfl, h1, h2⟩ := h.tup_inv
  obtain ⟨x, us, rfl, tx, h3⟩ := h2.cons_inv
  obtain ⟨y, us, rfl, ty, h4⟩ := h3.cons_inv
  obtain ⟨z, us, rfl, tz, h5⟩ := h4.cons_inv
  rw [h5.nil_inv] at h1
  exact ⟨a, x, y, z, rfl, h1, tx, ty, tz⟩
end
structure Fn1 where
  name : Str
  things : List Str
  body : Part
def Fn1.data (f : Fn1) : PyData := .tuple [.str f.name, .tuple (f.things.map .str), f.body.data]
structure Prog where
  fs : List Fn1
  asked : Part
def Prog.data (P : Prog) : PyData := .tuple [.tuple (P.fs.map Fn1.data), P.asked.data]
def Prog.names (P : Prog) : List Str := P.fs.map (·.name)
structure Part.fine (fs sc : List Str) (p : Part) : Prop where
  ok : p.ok fs sc
  deep : p.deep ≤ 12
  size : p.size ≤ 60
  nd : p.rowNames.Nodup
  un : ∀ x ∈ p.rowNames, isName x ∧ x ∉ sc
structure Fn1.fine (fs : List Str) (f : Fn1) : Prop where
  nm : isName f.name
  few : f.things.length ≤ 4
  nd : f.things.Nodup
  th : ∀ x ∈ f.things, isName x
  body : f.body.fine fs f.things
structure Prog.fine (P : Prog) : Prop where
  few : P.fs.length ≤ 8
  nd : P.names.Nodup
  fs : ∀ f ∈ P.fs, f.fine P.names
  asked : P.asked.fine P.names []
def spProgram : Sp := fun vs H Q _ => ∃ (pen L : Addr), vs = [.ref pen] ∧ PenAt H pen L ∧
  ∀ (v : V) (P : Prog) (H' : Hp), Tp H' v P.data → P.fine → PenAt H' pen L → Chg pen H H' → Q v H'
theorem spNames_mk {pen L : Addr} {many : Int} {H : Hp} {Q : VK} {E : XK} (h : PenAt H pen L) (h0 : 0 ≤ many) (h1 : many ≤ 26)
    (q : ∀ (d : Addr) (ss : List Str) (H' : Hp), (ss.length : Int) = many → (∀ s ∈ ss, isName s) → ss.Nodup → H d = none → H' d = some (.lst (ss.map V.str)) → PenAt H' pen L → Chg pen H H' → Q (.ref d) H') : spNames ([.ref pen, .int many] ++ []) H Q E :=
  ⟨pen, L, many, rfl, h, h0, h1, q⟩
theorem fine_of {W : List (Str × Nat)} {p : Part} {ss sc st : List Str} (hn : ∀ s ∈ ss, isName s) (nd : ss.Nodup) (e : ss = sc ++ st) (h1 : p.ok (W.map (·.1)) sc) (h2 : p.deep ≤ 12) (h3 : p.size ≤ 60) (h4 : p.rowNames.Nodup) (h5 : ∀ x ∈ p.rowNames, x ∈ st) : p.fine (W.map (·.1)) sc :=
  ⟨h1, h2, h3, h4, fun x hx => ⟨hn x (by rw [e]; exact List.mem_append.mpr (.inr (h5 x hx))), fun hs => by rw [e] at nd; exact (List.nodup_append.mp nd).2.2 x hs x (h5 x hx) rfl⟩⟩
theorem pure_program {K : PySem.W.Frag} {w : World} : PureOk 1 spProgram (t_law_program K w spNames spDraw spBody) 8 := by
  refine ⟨fun vs H Q E ⟨_, _, e, _⟩ => by rw [e]; rfl, ?_⟩
  rintro vs H Q E ⟨pen, L, rfl, hP, q⟩
  show t_law_program K w _ _ _ _ [some (.ref pen), none, none, none, none, none, none, none] H
  unfold t_law_program
  walk_at "go"
  intro l1 H1 nl1 el1 s1
  walk_at "go"
  refine g_draw (hP.same s1) (by decide) (by decide) fun y H2 y0 y1 hP2 c2 => ?_
  obtain ⟨many, hm, hm0, hm1⟩ : ∃ many : Int, atI [V.int 0, V.int 1, V.int 2, V.int 3, V.int 4, V.int 2, V.int 3, V.int 8] y = some (.int many) ∧ 0 ≤ many ∧ many ≤ 8 := by
    obtain rfl | rfl | rfl | rfl | rfl | rfl | rfl | rfl : y = 0 ∨ y = 1 ∨ y = 2 ∨ y = 3 ∨ y = 4 ∨ y = 5 ∨ y = 6 ∨ y = 7 := by omega
    all_goals exact ⟨_, rfl, by decide, by decide⟩
  refine g_ixL (.of (c2 _ _ (hP.ne nl1).1.symm el1)) hm ?_
  walk_at "go"
  refine spNames_mk hP2 hm0 (by omega) fun nl ss H3 hss hsn hsd hn3 en3 hP3 c3 => ?_
  have c03 : Chg pen H H3 := (Chg.same s1).trans (c2.trans c3)
  walk_at "go"
  refine g_seqL ?_
  walk_at "go"
  refine g_isL (.of en3) fun wl hwl => ?_
  have npn : nl ≠ pen := (hP2.ne hn3).1.symm
  have nwn : nl ≠ wl := ne_of_none en3 hwl
  have fwl := hP3.ne hwl
  refine lc_any ss.length (fun i acc H' => ∃ W : List (Str × Nat), W.map (·.1) = ss.take i ∧ (∀ q ∈ W, q.2 ≤ 4) ∧ Tps H' acc (W.map fun q => .tuple [.str q.1, .int q.2]) ∧ PenAt H' pen L ∧ H' nl = some (.lst (ss.map V.str)) ∧ acc.length = i ∧ (∀ b o, b ≠ pen → b ≠ wl → H3 b = some o → H' b = some o)) hwl
    (fun H' _ s => ⟨[], by simp, by simp, .nil, hP3.same s, s _ _ en3, rfl, fun b o _ _ e => s b o e⟩)
    (fun i acc H' hi ⟨_, _, _, _, _, e, _⟩ => ⟨_, _, .of e, List.getElem?_eq_getElem (by rw [List.length_map]; exact hi)⟩) (fun acc H' ⟨_, _, _, _, _, e, _⟩ => ⟨_, .of e, by rw [List.length_map]; exact Nat.le_refl _⟩) ?_ ?_
  · rintro i x acc _ H5 hi hl ⟨W, hW, hW4, tW, hP5, en5, hacc, c5⟩ hd5 ⟨rfl, hx⟩
    obtain ⟨nm, hnmi, rfl⟩ : ∃ nm, ss[i]? = some nm ∧ x = .str nm := by
      have h1 := hx _ (.of en5)
      rw [List.getElem?_map] at h1
      obtain ⟨nm, h2, h3⟩ := Option.map_eq_some_iff.mp h1
      exact ⟨nm, h2, h3.symm⟩
    walk_at "go"
    refine ⟨rfl, ?_⟩
    walk_at "go"
    refine g_T rfl ?_
    walk_at "go"
    intro l6 H6 nl6 el6 s6
    walk_at "go"
    refine g_draw (hP5.same s6) (by decide) (by decide) fun y H7 y0 y1 hP7 c7 => ?_
    obtain ⟨k, hk, hk4⟩ : ∃ k : Nat, atI [V.int 1, V.int 0, V.int 1, V.int 2, V.int 2, V.int 3, V.int 4] y = some (.int k) ∧ k ≤ 4 := by
      obtain rfl | rfl | rfl | rfl | rfl | rfl | rfl : y = 0 ∨ y = 1 ∨ y = 2 ∨ y = 3 ∨ y = 4 ∨ y = 5 ∨ y = 6 := by omega
      · exact ⟨1, rfl, by decide⟩
      · exact ⟨0, rfl, by decide⟩
      · exact ⟨1, rfl, by decide⟩
      · exact ⟨2, rfl, by decide⟩
      · exact ⟨2, rfl, by decide⟩
      · exact ⟨3, rfl, by decide⟩
      · exact ⟨4, rfl, by decide⟩
    refine g_ixL (.of (c7 _ _ (hP5.ne nl6).1.symm el6)) hk ?_
    walk_at "go"
    intro a8 H8 na8 ea8 s8
    have c58 : Chg pen H5 H8 := (Chg.same s6).trans (c7.trans (.same s8))
    have k8 : Tk H5 H8 := hP5.tk c58
    have hd8 := c58 _ _ fwl.1.symm hd5
    refine lc_step hd8 hl (by have : (ss.length : Int) ≤ 8 := by omega
                              show _ < 16777216; omega) fun H9 e9 c9 => ?_
    have k9 : Tk H8 H9 := c9.tkl hd8
    refine ⟨W ++ [(nm, k)], ?_, ?_, ?_, (hP7.same s8).chg c9 fwl.1 fwl.2, c9 _ _ nwn (c58 _ _ npn en5), by simp [hacc], fun b o n1 n2 e => c9 b o n2 (c58 b o n1 (c5 b o n1 n2 e))⟩
    · rw [List.map_append, hW, List.take_add_one, hnmi]
      rfl
    · intro q hq
      rcases List.mem_append.mp hq with h | h
      · exact hW4 q h
      · rw [List.mem_singleton.mp h]
        exact hk4
    · rw [List.map_append]
      exact Tps.append ((tW.mono k8).mono k9) (.one (.tup (k9 _ _ ea8) (.cons (.str _) (.one (.int _)))))
  rintro wx H5 hw5 ⟨W, hW, hW4, tW, hP5, en5, hacc, c5⟩
  rw [List.take_length] at hW
  have hWl : W.length = ss.length := by rw [← hW, List.length_map]
  have hWO : WorldOk W := ⟨by omega, fun q hq => ⟨hsn _ (by rw [← hW]; exact List.mem_map.mpr ⟨q, hq, rfl⟩), hW4 q hq⟩⟩
  have c05 : Chg pen H H5 := fun b o n1 e => c5 b o n1 (ne_of_none (c03 b o n1 e) hwl) (c03 b o n1 e)
  walk_at "go"
  intro fl H6 nf ef s6
  walk_at "go"
  have hw6 := s6 _ _ hw5
  have tW6 := tW.mono (Same.tk s6)
  have hP6 := hP5.same s6
  refine g_seqL ?_
  walk_at "go"
  refine g_isL (.of hw6) ?_
  have ffl := hP5.ne nf
  have nfw : wl ≠ fl := ne_of_none hw5 nf
  refine for_any W.length (fun i σ H' => ∃ (x3 x5 x6 x7 : Option V) (vs : List V) (fs : List Fn1), σ = [some (.ref pen), some (.ref nl), some (.ref wl), x3, some (.ref fl), x5, x6, x7] ∧
      H' fl = some (.lst vs) ∧ H' wl = some (.lst wx) ∧ Tps H' wx (W.map fun q => .tuple [.str q.1, .int q.2]) ∧ Tps H' vs (fs.map Fn1.data) ∧ fs.map (·.name) = (W.map (·.1)).take i ∧ (∀ f ∈ fs, f.fine (W.map (·.1))) ∧ PenAt H' pen L ∧ vs.length = i ∧ (∀ b o, b ≠ pen → b ≠ fl → H6 b = some o → H' b = some o))
    ⟨none, none, none, none, [], [], rfl, ef, hw6, tW6, .nil, by simp, by simp, hP6, rfl, fun b o _ _ e => e⟩
    (fun i σ H' hi ⟨_, _, _, _, _, _, _, _, e, t, _⟩ => ⟨_, _, .of e, List.getElem?_eq_getElem (by rw [t.length, List.length_map]; exact hi)⟩) (fun σ H' ⟨_, _, _, _, _, _, _, _, e, t, _⟩ => ⟨_, .of e, by rw [t.length, List.length_map]; exact Nat.le_refl _⟩) ?_ ?_
  · rintro i x σ _ H7 hi ⟨x3, x5, x6, x7, vs, fs, rfl, hf7, hw7, tW7, tf7, hfs, hfine, hP7, hvl, c7⟩ ⟨rfl, hx⟩
    obtain ⟨d, hd, tx⟩ := tW7.get (hx _ (.of hw7))
    rw [List.getElem?_map] at hd
    obtain ⟨⟨f, k⟩, hfk, rfl⟩ := Option.map_eq_some_iff.mp hd
    have hfW := List.mem_of_getElem? hfk
    obtain ⟨a, u1, u2, rfl, ea, t1, t2⟩ := tx.two
    rw [t1.str_inv, t2.int_inv] at ea
    have hk4 : k ≤ 4 := (hWO.2 _ hfW).2
    refine g_un2 ea ?_
    walk_at "go"
    refine spNames_mk hP7 (by decide) (by decide) fun sk ns H8 hns hnn hnd nsk esk hP8 c8 => ?_
    walk_at "go"
    have hkn : k ≤ ns.length := by omega
    refine g_slL (.of esk) fun th H9 nth eth s9 => ?_
    rw [cut_to] at eth
    walk_at "go"
    have c79 : Chg pen H7 H9 := c8.trans (.same s9)
    have hf9 := c79 _ _ ffl.1.symm hf7
    have hw9 := c79 _ _ fwl.1.symm hw7
    refine g_tyl (.of hf9) ?_
    walk_at "go"
    refine g_tupleL (.of eth) fun tt H10 ntt ett s10 => ?_
    walk_at "go"
    have esk10 := s10 _ _ (s9 _ _ esk)
    refine g_slL (.of esk10) fun st H11 nst est s11 => ?_
    rw [cut_from k hkn] at est
    walk_at "go"
    have c711 : Chg pen H7 H11 := c79.trans ((Chg.same s10).trans (.same s11))
    have hP9 : PenAt H9 pen L := hP8.same s9
    have hP10 : PenAt H10 pen L := hP9.same s10
    have hP11 : PenAt H11 pen L := hP10.same s11
    have fth := hP8.ne nth
    have fst := hP10.ne nst
    have hw11 := c711 _ _ fwl.1.symm hw7
    have hf11 := c711 _ _ ffl.1.symm hf7
    have k11 : Tk H7 H11 := hP7.tk c711
    have eth11 := s11 _ _ (s10 _ _ eth)
    have esp : ns = ns.take k ++ ns.drop k := (List.take_append_drop k ns).symm
    refine ⟨pen, L, wl, th, st, W, f, ns.take k, ns.drop k, rfl,
      ⟨hP11, ⟨wx, hw11, tW7.mono k11⟩, eth11, est, fwl.1.symm, ne_of_none (s10 _ _ hw9) nst, fth.1.symm, ne_of_none (s10 _ _ eth) nst, fst.1.symm, fst.2.symm⟩,
      ⟨hWO, ⟨fun x hx => hnn x (List.mem_of_mem_take hx), fun x hx => hnn x (List.mem_of_mem_drop hx), List.Sublist.nodup (List.drop_sublist k ns) hnd, by rw [List.length_take, List.length_drop]; omega⟩, .inr (List.mem_map.mpr ⟨_, hfW, rfl⟩), by rw [List.length_take]; omega⟩,
      fun v p H12 t12 hP12 ok12 d12 z12 nd12 un12 c12 => ?_⟩
    walk_at "go"
    intro a13 H13 na13 ea13 s13
    walk_at "go"
    have nws : wl ≠ st := ne_of_none (s10 _ _ hw9) nst
    have nfs : fl ≠ st := ne_of_none (s10 _ _ hf9) nst
    have nts : tt ≠ st := ne_of_none ett nst
    have ntp : tt ≠ pen := (hP9.ne ntt).1.symm
    have hf13 := s13 _ _ (c12 _ _ ffl.1.symm nfs hf11)
    have hw13 := s13 _ _ (c12 _ _ fwl.1.symm nws hw11)
    have k12 : Tk H11 H12 := fun b xs e => c12 b _ (by obtain ⟨_, _, _, hp, _⟩ := hP11; rintro rfl; rw [hp] at e; cases e) (by rintro rfl; rw [est] at e; cases e) e
    have k13 : Tk H7 H13 := (k11.trans k12).trans (Same.tk s13)
    refine g_append hf13 (by have := hWO.1; rw [hvl]; show _ < 16777216; omega) fun H14 e14 c14 => ?_
    walk_at "go"
    have k14 : Tk H13 H14 := c14.tkl hf13
    have hP13 := hP12.same s13
    refine ⟨_, _, _, _, vs ++ [.ref a13], fs ++ [⟨f, ns.take k, p⟩], rfl, e14, c14 _ _ nfw hw13, (tW7.mono k13).mono k14, ?_, ?_, ?_, hP13.chg c14 ffl.1 ffl.2, by simp [hvl], fun b o n1 n2 e => c14 b o n2 (s13 b o (c12 b o n1 (ne_of_none (s10 b o (c79 b o n1 (c7 b o n1 n2 e))) nst) (c711 b o n1 (c7 b o n1 n2 e))))⟩
    · rw [List.map_append]
      refine Tps.append ((tf7.mono k13).mono k14) (.one (.tup (k14 _ _ ea13) (.cons (.str _) (.cons (.tup (k14 _ _ (s13 _ _ (c12 _ _ ntp nts (s11 _ _ ett)))) (Tps.strs _)) (.one ((t12.mono (Same.tk s13)).mono k14))))))
    · rw [List.map_append, hfs, List.take_add_one, List.getElem?_map, hfk]
      rfl
    · intro g hg
      rcases List.mem_append.mp hg with h | h
      · exact hfine g h
      · rw [List.mem_singleton.mp h]
        exact ⟨(hWO.2 _ hfW).1, by show (ns.take k).length ≤ 4; rw [List.length_take]; omega, List.Sublist.nodup (List.take_sublist k ns) hnd, fun x hx => hnn x (List.mem_of_mem_take hx), fine_of hnn hnd esp ok12 d12 z12 nd12 un12⟩
  rintro σ H7 ⟨x3, x5, x6, x7, vs, fs, rfl, hf7, hw7, tW7, tf7, hfs, hfine, hP7, hvl, c7⟩
  rw [show W.length = (W.map (·.1)).length from (List.length_map _).symm, List.take_length] at hfs
  walk_at "go"
  refine g_tupleL (.of hf7) fun tf H8 ntf etf s8 => ?_
  walk_at "go"
  intro sc H9 nsc esc s9
  walk_at "go"
  have hP8 : PenAt H8 pen L := hP7.same s8
  have hP9 : PenAt H9 pen L := hP8.same s9
  have fsc := hP8.ne nsc
  refine spNames_mk hP9 (by decide) (by decide) fun st ns H10 hns hnn hnd nst est hP10 c10 => ?_
  walk_at "go"
  have c710 : Chg pen H7 H10 := (Chg.same s8).trans ((Chg.same s9).trans c10)
  have fst := hP9.ne nst
  have k10 : Tk H7 H10 := hP7.tk c710
  have hw10 := c710 _ _ fwl.1.symm hw7
  have esc10 := c10 _ _ fsc.1.symm esc
  refine ⟨pen, L, wl, sc, st, W, "", [], ns, rfl,
    ⟨hP10, ⟨wx, hw10, tW7.mono k10⟩, esc10, est, fwl.1.symm, ne_of_none (s9 _ _ (s8 _ _ hw7)) nst, fsc.1.symm, ne_of_none esc nst, fst.1.symm, fst.2.symm⟩,
    ⟨hWO, ⟨fun x hx => absurd hx (by simp), hnn, hnd, by show 0 + _ ≤ _; omega⟩, .inl rfl, by decide⟩, fun v p H11 t11 hP11 ok11 d11 z11 nd11 un11 c11 => ?_⟩
  walk_at "go"
  intro a12 H12 na12 ea12 s12
  have ntp : tf ≠ pen := (hP7.ne ntf).1.symm
  have nts : tf ≠ st := ne_of_none (s9 _ _ etf) nst
  have k11 : Tk H10 H11 := fun b xs e => c11 b _ (by obtain ⟨_, _, _, hp, _⟩ := hP10; rintro rfl; rw [hp] at e; cases e) (by rintro rfl; rw [est] at e; cases e) e
  have k12 := (k10.trans k11).trans (Same.tk s12)
  have hnm : (Prog.mk fs p).names = W.map (·.1) := hfs
  refine q (.ref a12) ⟨fs, p⟩ H12 ?_ ⟨?_, ?_, ?_, ?_⟩ (hP11.same s12) fun b o n1 e => ?_
  · refine .tup ea12 (.cons (.tup (s12 _ _ (c11 _ _ ntp nts (c10 _ _ ntp (s9 _ _ etf)))) (tf7.mono k12)) (.one (t11.mono (Same.tk s12))))
  · have := congrArg List.length hfs
    rw [List.length_map, List.length_map] at this
    have := hWO.1
    show fs.length ≤ 8
    omega
  · rw [hnm, hW]
    exact hsd
  · rw [hnm]
    exact hfine
  · rw [hnm]
    exact fine_of hnn hnd rfl ok11 d11 z11 nd11 un11
  · have e5 := c05 b o n1 e
    have e6 := s6 b o e5
    have e7 := c7 b o n1 (ne_of_none e5 nf) e6
    have e9 := s9 b o (s8 b o e7)
    exact s12 b o (c11 b o n1 (ne_of_none e9 nst) (c10 b o n1 e9))

/-! ### parts within parts -/
section
variable {K : PySem.W.Frag} {w : World} {σ : L2.St} {H : Hp} {Q : VK} {D : Ends} {c : TT} {tb : TS} {d : Addr} {z : Str} {kvs : List (Str × V)}
theorem while_any (Pv : Nat → L2.St → Hp → Prop) (m : Nat) (h0 : Pv m σ H)
    (hs : ∀ m σ H, Pv m σ H → c σ H fun b H1 => if b = true then ∃ N : L2.St → Hp → Prop, (∀ σ' H', N σ' H' → ∃ m', m' < m ∧ Pv m' σ' H') ∧ tb { D with nx := N, ct := N, bk := D.nx } σ H1 else D.nx σ H1) : tWhile c tb D σ H :=
  ⟨Pv, ⟨m, h0⟩, hs⟩
/-- a turn of a while -/
theorem g_turn {Pv : Nat → L2.St → Hp → Prop} {m : Nat} (h : tb { D with nx := fun σ' H' => ∃ m', m' < m ∧ Pv m' σ' H', ct := fun σ' H' => ∃ m', m' < m ∧ Pv m' σ' H', bk := D.nx } σ H) :
    ∃ N : L2.St → Hp → Prop, (∀ σ' H', N σ' H' → ∃ m', m' < m ∧ Pv m' σ' H') ∧ tb { D with nx := N, ct := N, bk := D.nx } σ H := ⟨_, fun _ _ h => h, h⟩
theorem g_inK (T : KTab K w d kvs) {r : Bool} (e : (kvs.find? fun q => decide (q.1 = z)).isSome = r) (q : Q (.bl r) H) : rInG K w false (.str z) (.ref d) H Q :=
  .inr (.inr (.inr ⟨z, d, _, rfl, rfl, T z, by subst e; simpa using q⟩))
theorem Tps.snoc_inv : ∀ {ds : List PyData} {e : PyData} {us : List V}, Tps H us (ds ++ [e]) → ∃ vs v, us = vs ++ [v] ∧ Tps H vs ds ∧ Tp H v e
  | [], e, us, h => by
    obtain ⟨v, r, rfl, tv, tr⟩ := h.cons_inv
    rw [tr.nil_inv]
    exact ⟨[], v, rfl, .nil, tv⟩
  | d :: ds, e, us, h => by
    obtain ⟨v, r, rfl, tv, tr⟩ := Tps.cons_inv (ds := ds ++ [e]) h
    obtain ⟨vs, x, rfl, t1, t2⟩ := Tps.snoc_inv tr
    exact ⟨v :: vs, x, rfl, .cons tv t1, t2⟩
/-- the list at l is unlike nothing, or like -/
theorem g_neLL {a b : Addr} {xs ys : List V} {ds es : List PyData} (ha : H a = some (.lst xs)) (hb : H b = some (.lst ys)) (ta : Tps H xs ds) (tb : Tps H ys es) (sa : SeqAt.shaped (.list ds) = true) (sb : SeqAt.shaped (.list es) = true)
    (q : Q (.bl (!PyData.eqv (.list ds) (.list es))) H) : rNeG K (.ref a) (.ref b) H Q := g_neD (.lst (.of ha) (Tps.dp ta)) (.lst (.of hb) (Tps.dp tb)) sa sb q
end
mutual
/-- all parts of a part, each ahead of what it holds -/
def Part.all : Part → List Part
  | .num n => [.num n]
  | .name x => [.name x]
  | .fn f => [.fn f]
  | .one k a => .one k a :: a.all
  | .two k a b => .two k a b :: (a.all ++ b.all)
  | .whn a b c => .whn a b c :: (a.all ++ (b.all ++ c.all))
  | .letp r a => .letp r a :: (r.all ++ a.all)
  | .shut a => [.shut a]
def Rows.all : Rows → List Part
  | .nil => []
  | .cons _ a r => a.all ++ r.all
end
theorem Rows.all_flat : ∀ r : Rows, r.all = r.parts.flatMap Part.all
  | .nil => rfl
  | .cons x a r => by
    show a.all ++ r.all = (a :: r.parts).flatMap Part.all
    rw [List.flatMap_cons, ← Rows.all_flat r]
theorem Part.all_kids (p : Part) : p.all = p :: p.kids.flatMap Part.all := by
  cases p with
  | letp r a =>
    show _ :: (r.all ++ a.all) = _ :: (r.parts ++ [a]).flatMap Part.all
    rw [Rows.all_flat, List.flatMap_append]
    simp
  | _ => simp [Part.all, Part.kids]
/-- sums, greatest depths -/
def sz : List Part → Nat
  | [] => 0
  | p :: r => p.size + sz r
def mxd : List Part → Nat
  | [] => 0
  | p :: r => max p.deep (mxd r)
theorem sz_app : ∀ a b : List Part, sz (a ++ b) = sz a + sz b
  | [], b => by show sz b = 0 + sz b; omega
  | p :: a, b => by
    show p.size + sz (a ++ b) = p.size + sz a + sz b
    rw [sz_app a b]
    omega
theorem mxd_app : ∀ a b : List Part, mxd (a ++ b) = max (mxd a) (mxd b)
  | [], b => by show mxd b = max 0 (mxd b); omega
  | p :: a, b => by
    show max p.deep (mxd (a ++ b)) = max (max p.deep (mxd a)) (mxd b)
    rw [mxd_app a b]
    omega
theorem sz_len : ∀ a : List Part, a.length ≤ sz a
  | [] => Nat.le_refl _
  | p :: a => by
    have := sz_len a
    have := p.size_pos
    show a.length + 1 ≤ p.size + sz a
    omega
theorem Rows.sz : ∀ r : Rows, r.size = Lz.sz r.parts
  | .nil => rfl
  | .cons x a r => by
    show a.size + r.size = a.size + Lz.sz r.parts
    rw [Rows.sz r]
theorem Rows.mxd : ∀ r : Rows, r.deep = Lz.mxd r.parts
  | .nil => rfl
  | .cons x a r => by
    show max a.deep r.deep = max a.deep (Lz.mxd r.parts)
    rw [Rows.mxd r]
theorem Part.sz_kids (p : Part) : p.size = 1 + sz p.kids := by
  cases p with
  | letp r a =>
    show 1 + (r.size + a.size) = 1 + sz (r.parts ++ [a])
    rw [sz_app, Rows.sz]
    rfl
  | _ => rfl
theorem Part.mxd_kids (p : Part) : p.deep = 1 + mxd p.kids := by
  cases p with
  | letp r a =>
    show 1 + max r.deep a.deep = 1 + mxd (r.parts ++ [a])
    rw [mxd_app, Rows.mxd]
    show _ = 1 + max _ (max a.deep 0)
    omega
  | one k a => show 1 + a.deep = 1 + max a.deep 0; omega
  | two k a b => show 1 + max a.deep b.deep = 1 + max a.deep (max b.deep 0); omega
  | whn a b c => show 1 + max a.deep (max b.deep c.deep) = 1 + max a.deep (max b.deep (max c.deep 0)); omega
  | _ => rfl
theorem mxd_mem {q : Part} : ∀ {a : List Part}, q ∈ a → q.deep ≤ mxd a
  | p :: a, h => by
    show q.deep ≤ max p.deep (mxd a)
    rcases List.mem_cons.mp h with rfl | h
    · omega
    · have := mxd_mem h
      omega
theorem all_len : ∀ (n : Nat) (p : Part), p.size ≤ n → p.all.length = p.size := by
  intro n
  induction n with
  | zero => intro p h; have := p.size_pos; omega
  | succ n ih =>
    intro p h
    have h1 := p.sz_kids
    rw [p.all_kids, List.length_cons, h1]
    have : ∀ l : List Part, sz l ≤ n → (l.flatMap Part.all).length = sz l := by
      intro l
      induction l with
      | nil => intro _; rfl
      | cons q l il =>
        intro hl
        have hl' : q.size + sz l ≤ n := hl
        rw [List.flatMap_cons, List.length_append, ih q (by omega), il (by omega)]
        rfl
    rw [this _ (by omega)]
    omega
theorem Part.all_len (p : Part) : p.all.length = p.size := Lz.all_len p.size p (Nat.le_refl _)
/-! what stands in a program -/
def Part.good (p : Part) : Prop := (∃ fs sc, p.ok fs sc) ∧ p.deep ≤ 12
theorem Rows.ok_parts {fs sc : List Str} : ∀ {r : Rows}, r.ok fs sc → ∀ q ∈ r.parts, q.ok fs sc
  | .cons x a r, h, q, hq => by
    rcases List.mem_cons.mp hq with rfl | hq
    · exact h.1
    · exact Rows.ok_parts h.2 q hq
theorem Part.ok_kids {fs sc : List Str} {p : Part} (h : p.ok fs sc) : ∃ sc', ∀ q ∈ p.kids, q.ok fs sc' := by
  cases p with
  | num n => exact ⟨sc, by simp [Part.kids]⟩
  | name x => exact ⟨sc, by simp [Part.kids]⟩
  | fn f => exact ⟨sc, by simp [Part.kids]⟩
  | one k a => exact ⟨sc, fun q hq => by rw [List.mem_singleton.mp hq]; exact h⟩
  | two k a b =>
    refine ⟨sc, fun q hq => ?_⟩
    simp only [Part.kids, List.mem_cons, List.not_mem_nil, or_false] at hq
    rcases hq with rfl | rfl
    · exact h.1
    · exact h.2
  | whn a b c =>
    refine ⟨sc, fun q hq => ?_⟩
    simp only [Part.kids, List.mem_cons, List.not_mem_nil, or_false] at hq
    rcases hq with rfl | rfl | rfl
    · exact h.1
    · exact h.2.1
    · exact h.2.2
  | letp r a =>
    obtain ⟨_, _, _, h1, h2⟩ := h
    refine ⟨sc ++ r.names, fun q hq => ?_⟩
    rcases List.mem_append.mp hq with hq | hq
    · exact Rows.ok_parts h1 q hq
    · rw [List.mem_singleton.mp hq]
      exact h2
  | shut a => exact h.elim
theorem Part.good.kids {p : Part} (h : p.good) : ∀ q ∈ p.kids, q.good := by
  obtain ⟨⟨fs, sc, h1⟩, h2⟩ := h
  obtain ⟨sc', h3⟩ := Part.ok_kids h1
  have h4 := p.mxd_kids
  exact fun q hq => ⟨⟨fs, sc', h3 q hq⟩, by have := mxd_mem hq; omega⟩
theorem lay_word1 : ∀ k : K1, PyData.strOk k.word = true := by intro k; cases k <;> decide +kernel
theorem lay_word2 : ∀ k : K2, PyData.strOk k.word = true := by intro k; cases k <;> decide +kernel
mutual
theorem Part.lay {fs : List Str} : ∀ {p : Part} {sc : List Str}, p.ok fs sc → PyData.canLay0 p.data = true ∧ PyData.depth p.data ≤ 3 * p.deep
  | .num n, sc, h => by simp [Part.data, PyData.canLay0, PyData.canLayAll0, PyData.depth, PyData.depthAll, Part.deep]; decide +kernel
  | .name x, sc, h => by
    have := canLay_name h.2
    rw [PyData.canLay0] at this
    simp [Part.data, PyData.canLay0, PyData.canLayAll0, PyData.depth, PyData.depthAll, Part.deep, this]; decide +kernel
  | .fn x, sc, h => by
    have := canLay_name h.2
    rw [PyData.canLay0] at this
    simp [Part.data, PyData.canLay0, PyData.canLayAll0, PyData.depth, PyData.depthAll, Part.deep, this]; decide +kernel
  | .one k a, sc, h => by
    obtain ⟨h1, h2⟩ := Part.lay (p := a) h
    have hw := lay_word1 k
    simp only [Part.data, PyData.canLay0, PyData.canLayAll0, PyData.depth, PyData.depthAll, Part.deep, h1, hw, Bool.and_true, Bool.true_and]
    exact ⟨trivial, by omega⟩
  | .two k a b, sc, h => by
    obtain ⟨h1, h2⟩ := Part.lay (p := a) h.1
    obtain ⟨h3, h4⟩ := Part.lay (p := b) h.2
    have hw := lay_word2 k
    simp only [Part.data, PyData.canLay0, PyData.canLayAll0, PyData.depth, PyData.depthAll, Part.deep, h1, h3, hw, Bool.and_true, Bool.true_and]
    exact ⟨trivial, by omega⟩
  | .whn a b c, sc, h => by
    obtain ⟨h1, h2⟩ := Part.lay (p := a) h.1
    obtain ⟨h3, h4⟩ := Part.lay (p := b) h.2.1
    obtain ⟨h5, h6⟩ := Part.lay (p := c) h.2.2
    have hw : PyData.strOk "when" = true := by decide +kernel
    simp only [Part.data, PyData.canLay0, PyData.canLayAll0, PyData.depth, PyData.depthAll, Part.deep, h1, h3, h5, hw, Bool.and_true, Bool.true_and]
    exact ⟨trivial, by omega⟩
  | .letp r a, sc, h => by
    obtain ⟨h1, h2⟩ := Part.lay (p := a) h.2.2.2.2
    obtain ⟨h3, h4⟩ := Rows.lay (r := r) h.2.2.2.1 h.2.2.1
    have hw : PyData.strOk "let" = true := by decide +kernel
    simp only [Part.data, PyData.canLay0, PyData.canLayAll0, PyData.depth, PyData.depthAll, Part.deep, h1, h3, hw, Bool.and_true, Bool.true_and]
    exact ⟨trivial, by omega⟩
  | .shut a, sc, h => h.elim
theorem Rows.lay {fs : List Str} : ∀ {r : Rows} {sc : List Str}, r.ok fs sc → (∀ x ∈ r.names, isName x) → PyData.canLayAll0 r.datas = true ∧ PyData.depthAll r.datas ≤ 3 * r.deep + 1
  | .nil, sc, h, _ => by simp [Rows.datas, PyData.canLayAll0, PyData.depthAll]
  | .cons x a r, sc, h, hn => by
    obtain ⟨h1, h2⟩ := Part.lay (p := a) h.1
    obtain ⟨h3, h4⟩ := Rows.lay (r := r) h.2 fun y hy => hn y (List.mem_cons_of_mem _ hy)
    have hw := canLay_name (hn x (by show x ∈ x :: r.names; simp))
    rw [PyData.canLay0] at hw
    simp only [Rows.datas, PyData.canLay0, PyData.canLayAll0, PyData.depth, PyData.depthAll, Rows.deep, h1, h3, hw, Bool.and_true, Bool.true_and]
    exact ⟨trivial, by omega⟩
end
theorem Part.good.lay {p : Part} (h : p.good) : PyData.canLay0 p.data = true ∧ PyData.depth p.data ≤ 36 := by
  obtain ⟨⟨fs, sc, h1⟩, h2⟩ := h
  have := Part.lay h1
  exact ⟨this.1, by omega⟩
theorem shaped_parts {ps : List Part} (h : ∀ p ∈ ps, p.good) : SeqAt.shaped (.list (ps.map Part.data)) = true :=
  shaped_list (k := 36) (fun d hd => by obtain ⟨p, hp, rfl⟩ := List.mem_map.mp hd; exact (h p hp).lay.1) (fun d hd => by obtain ⟨p, hp, rfl⟩ := List.mem_map.mp hd; exact (h p hp).lay.2) (by decide)
/-- the rows' values -/
theorem Rows.get : ∀ {r : Rows} {i : Nat} {d : PyData}, r.datas[i]? = some d → ∃ x p, r.names[i]? = some x ∧ r.parts[i]? = some p ∧ d = .tuple [.str x, p.data]
  | .nil, i, d, h => by simp [Rows.datas] at h
  | .cons x a r, 0, d, h => by
    have h1 : some (PyData.tuple [.str x, a.data]) = some d := h
    cases h1
    exact ⟨x, a, rfl, rfl, rfl⟩
  | .cons x a r, i + 1, d, h => Rows.get (r := r) h
theorem Rows.len : ∀ r : Rows, r.datas.length = r.parts.length
  | .nil => rfl
  | .cons x a r => congrArg (· + 1) (Rows.len r)
def spKids : Sp := fun vs H Q _ => ∃ (v : V) (p : Part), vs = [v] ∧ Tp H v p.data ∧ p.good ∧ p.size ≤ 60 ∧ ∀ (l : Addr) (us : List V) (H' : Hp), H l = none → H' l = some (.lst us) → Tps H' us (p.kids.map Part.data) → Same H H' → Q (.ref l) H'
theorem not_whole {n d : Nat} {o : Option Int} (h : 1 ≤ n) : ¬ (HT.sIx n 0 (some 1) = 0 ∧ HT.sIx n d o = n) := by
  rintro ⟨h1, _⟩
  rw [show (1 : Int) = ((1 : Nat) : Int) from rfl, HT.sIx_nat] at h1
  omega
def PARTSkvs : List (Str × V) := [("give", .int 2), ("plus", .int 2), ("less", .int 2), ("times", .int 2), ("below", .int 2), ("when", .int 3), ("pair", .int 2), ("left", .int 1), ("right", .int 1)]

/-! ### sums -/
def allGood (ps : List Part) : Prop := ∀ p ∈ ps, p.good
theorem sz_mem {q : Part} : ∀ {a : List Part}, q ∈ a → q.size ≤ sz a
  | p :: a, h => by
    show q.size ≤ p.size + sz a
    rcases List.mem_cons.mp h with rfl | h
    · omega
    · have := sz_mem h
      omega
theorem sz_rev : ∀ a : List Part, sz a.reverse = sz a
  | [] => rfl
  | p :: a => by
    rw [List.reverse_cons, sz_app, sz_rev a]
    show sz a + (p.size + 0) = p.size + sz a
    omega
/-! ### how deep -/
def dsz : List (Part × Nat) → Nat
  | [] => 0
  | (p, _) :: r => p.size + dsz r
def dmx : List (Part × Nat) → Nat
  | [] => 0
  | (p, d) :: r => max (d + p.deep) (dmx r)
def pd (q : Part × Nat) : PyData := .tuple [q.1.data, .int q.2]
theorem sum_sz : ∀ a : List Part, (a.map fun q => (q.size : Int)).sum = sz a
  | [] => rfl
  | p :: a => by
    rw [List.map_cons, List.sum_cons, sum_sz a]
    show (p.size : Int) + _ = ((p.size + sz a : Nat) : Int)
    omega

/-! ### kids -/
theorem pure_within {K : PySem.W.Frag} {w : World} (T : KTab K w (He.ga K "PARTS") PARTSkvs) : PureOk 1 spKids (t_within K w) 3 := by
  refine ⟨fun vs H Q E ⟨_, _, e, _⟩ => by rw [e]; rfl, ?_⟩
  rintro vs H Q E ⟨v, p, rfl, t, hg, hz, q⟩
  show t_within K w _ [some v, none, none] H
  unfold t_within
  walk_at "go"
  have leaf : ∀ {x : Str} {y : V} {a : Addr} {Q' : VK}, H a = some (.tup [.str x, y]) → Q' (.str x) H → rIxG K w (.ref a) (.int 0) H Q' := fun e q => g_ixT (.of e) (atI_of (by decide) rfl) q
  cases p with
  | shut a => exact hg.1.elim fun _ h => h.elim fun _ h => h.elim
  | num n =>
    obtain ⟨a, x, y, rfl, ea, t1, t2⟩ := t.two
    rw [t1.str_inv] at ea
    refine g_ixT (.of ea) (atI_of (by decide) rfl) (g_inK T (r := false) (by decide +kernel) ?_)
    walk_at "go"
    refine g_F rfl ?_
    walk_at "go"
    refine g_ixT (.of ea) (atI_of (by decide) rfl) ?_
    walk_at "go"
    refine g_F (by decide +kernel) ?_
    walk_at "go"
    intro l H1 nl el s1
    exact q l [] H1 nl el .nil s1
  | name n =>
    obtain ⟨a, x, y, rfl, ea, t1, t2⟩ := t.two
    rw [t1.str_inv] at ea
    refine g_ixT (.of ea) (atI_of (by decide) rfl) (g_inK T (r := false) (by decide +kernel) ?_)
    walk_at "go"
    refine g_F rfl ?_
    walk_at "go"
    refine g_ixT (.of ea) (atI_of (by decide) rfl) ?_
    walk_at "go"
    refine g_F (by decide +kernel) ?_
    walk_at "go"
    intro l H1 nl el s1
    exact q l [] H1 nl el .nil s1
  | fn n =>
    obtain ⟨a, x, y, rfl, ea, t1, t2⟩ := t.two
    rw [t1.str_inv] at ea
    refine g_ixT (.of ea) (atI_of (by decide) rfl) (g_inK T (r := false) (by decide +kernel) ?_)
    walk_at "go"
    refine g_F rfl ?_
    walk_at "go"
    refine g_ixT (.of ea) (atI_of (by decide) rfl) ?_
    walk_at "go"
    refine g_F (by decide +kernel) ?_
    walk_at "go"
    intro l H1 nl el s1
    exact q l [] H1 nl el .nil s1
  | one k b =>
    obtain ⟨a, x, y, rfl, ea, t1, t2⟩ := t.two
    rw [t1.str_inv] at ea
    refine g_ixT (.of ea) (atI_of (by decide) rfl) (g_inK T (r := true) (by cases k <;> decide +kernel) ?_)
    walk_at "go"
    refine g_T rfl ?_
    walk_at "go"
    refine g_slT (.of ea) (not_whole (by simp)) fun p1 H1 n1 e1 s1 => ?_
    walk_at "go"
    refine g_listT (.of e1) fun l H2 nl el s2 => ?_
    exact q l _ H2 (s1.free nl) el (.cons ((t2.mono (Same.tk s1)).mono (Same.tk s2)) .nil) (s1.trans s2)
  | two k b c =>
    obtain ⟨a, x, y, z, rfl, ea, t1, t2, t3⟩ := t.three
    rw [t1.str_inv] at ea
    refine g_ixT (.of ea) (atI_of (by decide) rfl) (g_inK T (r := true) (by cases k <;> decide +kernel) ?_)
    walk_at "go"
    refine g_T rfl ?_
    walk_at "go"
    refine g_slT (.of ea) (not_whole (by simp)) fun p1 H1 n1 e1 s1 => ?_
    walk_at "go"
    refine g_listT (.of e1) fun l H2 nl el s2 => ?_
    have k2 : Tk H H2 := Same.tk (s1.trans s2)
    exact q l _ H2 (s1.free nl) el (.cons (t2.mono k2) (.cons (t3.mono k2) .nil)) (s1.trans s2)
  | whn b c d =>
    obtain ⟨a, xs, rfl, ea, h1⟩ := t.tup_inv
    obtain ⟨x1, r1, rfl, t1, h1⟩ := h1.cons_inv
    obtain ⟨x2, r1, rfl, t2, h1⟩ := h1.cons_inv
    obtain ⟨x3, r1, rfl, t3, h1⟩ := h1.cons_inv
    obtain ⟨x4, r1, rfl, t4, h1⟩ := h1.cons_inv
    rw [h1.nil_inv, t1.str_inv] at ea
    refine g_ixT (.of ea) (atI_of (by decide) rfl) (g_inK T (r := true) (by decide +kernel) ?_)
    walk_at "go"
    refine g_T rfl ?_
    walk_at "go"
    refine g_slT (.of ea) (not_whole (by simp)) fun p1 H1 n1 e1 s1 => ?_
    walk_at "go"
    refine g_listT (.of e1) fun l H2 nl el s2 => ?_
    have k2 : Tk H H2 := Same.tk (s1.trans s2)
    exact q l _ H2 (s1.free nl) el (.cons (t2.mono k2) (.cons (t3.mono k2) (.cons (t4.mono k2) .nil))) (s1.trans s2)
  | letp r b =>
    obtain ⟨a, x, y, z, rfl, ea, t1, t2, t3⟩ := t.three
    rw [t1.str_inv] at ea
    refine g_ixT (.of ea) (atI_of (by decide) rfl) (g_inK T (r := false) (by decide +kernel) ?_)
    walk_at "go"
    refine g_F rfl ?_
    walk_at "go"
    refine g_ixT (.of ea) (atI_of (by decide) rfl) ?_
    walk_at "go"
    refine g_T (by decide +kernel) ?_
    walk_at "go"
    refine g_seqT ?_
    walk_at "go"
    refine g_ixT (.of ea) (atI_of (by decide) rfl) ?_
    obtain ⟨ra, rs, rfl, er, tr⟩ := t2.tup_inv
    refine g_isT (.of er) fun dn hdn => ?_
    have hlen : rs.length = r.parts.length := by rw [tr.length, r.len]
    have hfew : r.parts.length ≤ 60 := by
      have h1 := r.sz
      have h2 := sz_len r.parts
      have h3 : 1 + (r.size + b.size) ≤ 60 := hz
      omega
    refine lc_any rs.length (fun i acc H' => Tps H' acc ((r.parts.take i).map Part.data) ∧ Same H H' ∧ acc.length = i) hdn
      (fun H' _ s => ⟨.nil, s, rfl⟩) (fun i acc H' hi ⟨_, s, _⟩ => ⟨_, _, .of (s _ _ er), List.getElem?_eq_getElem hi⟩) (fun acc H' ⟨_, s, _⟩ => ⟨_, .of (s _ _ er), Nat.le_refl _⟩) ?_ ?_
    · rintro i x acc _ H5 hi hl ⟨ta, s5, hacc⟩ hd5 ⟨rfl, hx⟩
      obtain ⟨d, hd, tx⟩ := tr.get (hx _ (.of (s5 _ _ er)))
      obtain ⟨nm, p, hnm, hp, rfl⟩ := Rows.get hd
      obtain ⟨a2, u1, u2, rfl, ea2, _, tp⟩ := tx.two
      refine g_un2 (s5 _ _ ea2) ?_
      refine ⟨rfl, ?_⟩
      walk_at "go"
      refine g_T rfl ?_
      walk_at "go"
      refine lc_step hd5 hl (by show _ < 16777216; omega) fun H6 e6 c6 => ?_
      refine ⟨?_, Same.chg s5 hdn c6, by simp [hacc]⟩
      rw [List.take_add_one, hp, List.map_append]
      exact Tps.append (ta.mono (c6.tkl hd5)) (.one (((tp.mono (Same.tk s5))).mono (c6.tkl hd5)))
    rintro us H5 hd5 ⟨tu, s5, hacc⟩
    rw [hlen, List.take_length] at tu
    walk_at "go"
    refine g_ixT (.of (s5 _ _ ea)) (atI_of (by decide) rfl) ?_
    walk_at "go"
    intro l6 H6 nl6 el6 s6
    walk_at "go"
    refine g_addL (s6 _ _ hd5) el6 (by rw [hacc, hlen]; show _ + 1 ≤ 16777216; omega) fun l H7 nl el s7 => ?_
    have s07 : Same H H7 := s5.trans (s6.trans s7)
    refine q l _ H7 (s5.free (s6.free nl)) el ?_ s07
    show Tps H7 _ ((r.parts ++ [b]).map Part.data)
    rw [List.map_append]
    exact Tps.append (tu.mono (Same.tk (s6.trans s7))) (.one (t3.mono (Same.tk s07)))
/-! ### the parts in order -/
def spOrder : Sp := fun vs H Q _ => ∃ (v : V) (p : Part), vs = [v] ∧ Tp H v p.data ∧ p.good ∧ p.size ≤ 60 ∧ ∀ (l : Addr) (us : List V) (H' : Hp), H l = none → H' l = some (.lst us) → Tps H' us (p.all.map Part.data) → Same H H' → Q (.ref l) H'
theorem pure_order {K : PySem.W.Frag} {w : World} : PureOk 1 spOrder (t_in_order K w spKids) 4 := by
  refine ⟨fun vs H Q E ⟨_, _, e, _⟩ => by rw [e]; rfl, ?_⟩
  rintro vs H Q E ⟨v, p, rfl, t, hg, hz, q⟩
  show t_in_order K w _ _ [some v, none, none, none] H
  unfold t_in_order
  walk_at "go"
  intro fl H1 nf ef s1
  walk_at "go"
  intro pl H2 np ep s2
  walk_at "go"
  have hfp : fl ≠ pl := ne_of_none ef np
  refine while_any (fun m σ H' => ∃ (x3 : Option V) (us vs : List V) (fs ps : List Part), σ = [some v, some (.ref fl), some (.ref pl), x3] ∧ H' fl = some (.lst us) ∧ H' pl = some (.lst vs) ∧ Tps H' us (fs.map Part.data) ∧ Tps H' vs (ps.map Part.data) ∧
      allGood ps ∧ fs ++ ps.reverse.flatMap Part.all = p.all ∧ fs.length + sz ps = p.size ∧ m = sz ps ∧ Same H H') (p.size + 0)
    ⟨none, [], [v], [], [p], rfl, s2 _ _ ef, ep, .nil, .cons (t.mono (Same.tk (s1.trans s2))) .nil, fun x hx => by rw [List.mem_singleton.mp hx]; exact hg, by simp, by show 0 + (p.size + 0) = _; omega, rfl, s1.trans s2⟩ ?_
  rintro m σ H3 ⟨x3, us, vs, fs, ps, rfl, hf, hp, tf, tp, hgs, hall, hn, rfl, s3⟩
  walk_at "go"
  intro e4 H4 ne4 ee4 s4
  have hg4 := shaped_parts hgs
  refine g_neLL (s4 _ _ hp) ee4 (tp.mono (Same.tk s4)) .nil hg4 shaped_nil ?_
  rw [eqv_nil]
  walk_at "go"
  refine g_ite (fun hne => ?_) (fun hne => ?_)
  · refine g_turn ?_
    obtain ⟨ps', p1, rfl⟩ : ∃ ps' p1, ps = ps' ++ [p1] := by
      have : ps ≠ [] := by rintro rfl; simp at hne
      exact ⟨ps.dropLast, ps.getLast this, (List.dropLast_concat_getLast this).symm⟩
    have hg1 : p1.good := hgs p1 (by simp)
    have hz1 : p1.size ≤ 60 := by
      have := sz_mem (q := p1) (a := ps' ++ [p1]) (by simp)
      omega
    rw [List.map_append] at tp
    obtain ⟨vs', v1, rfl, tp', t1⟩ := tp.snoc_inv
    have hp4 := s4 _ _ hp
    walk_at "go"
    refine g_tyl (.of hp4) ?_
    refine g_pop hp4 fun H5 e5 c5 => ?_
    walk_at "go"
    have s5 : Chg pl H H5 := fun b o n e => c5 b o n (s4 b o (s3 b o e))
    have k5 : Tk H3 H5 := (Same.tk s4).trans (c5.tkl hp4)
    have hf5 := c5 _ _ hfp (s4 _ _ hf)
    refine g_tyl (.of hf5) ?_
    walk_at "go"
    have hul : us.length = fs.length := by rw [tf.length, List.length_map]
    refine g_append hf5 (by rw [hul]; show _ < 16777216; omega) fun H6 e6 c6 => ?_
    walk_at "go"
    have k6 : Tk H3 H6 := k5.trans (c6.tkl hf5)
    have hp6 := c6 _ _ hfp.symm e5
    refine g_tyl (.of hp6) ?_
    walk_at "go"
    refine ⟨v1, p1, rfl, t1.mono k6, hg1, hz1, fun l7 ks H7 nl7 el7 tk7 s7 => ?_⟩
    refine g_revL (.of el7) ?_
    intro l8 H8 nl8 el8 s8
    have tk8 : Tps H8 ks.reverse (p1.kids.map Part.data).reverse := (tk7.mono (Same.tk s8)).reverse
    have hp8 := s8 _ _ (s7 _ _ hp6)
    have hsz := p1.sz_kids
    have hkl : ks.length = p1.kids.length := by rw [tk7.length, List.length_map]
    have hvl : vs'.length = ps'.length := by rw [tp'.length, List.length_map]
    have h1 := sz_len p1.kids
    have h2 := sz_len ps'
    have h3 := sz_app ps' [p1]
    have h4 : sz [p1] = p1.size := Nat.add_zero _
    walk_at "go"
    refine g_extend hp8 el8 (by rw [List.length_reverse, hkl, hvl]; show _ ≤ 16777216; omega) fun H9 e9 c9 => ?_
    walk_at "go"
    have k9 : Tk H8 H9 := c9.tkl hp8
    have k39 : Tk H3 H9 := (k6.trans (Same.tk (s7.trans s8))).trans k9
    have fl9 := c9 _ _ hfp (s8 _ _ (s7 _ _ e6))
    have npl : H pl = none := s1.free np
    have nfl : H fl = none := nf
    refine ⟨sz (ps' ++ p1.kids.reverse), by rw [sz_app, sz_rev]; omega, _, _, _, fs ++ [p1], ps' ++ p1.kids.reverse, rfl, fl9, e9, ?_, ?_, ?_, ?_, ?_, rfl, ?_⟩
    · rw [List.map_append]
      exact Tps.append (tf.mono k39) (.one (t1.mono k39))
    · rw [List.map_append, List.map_reverse]
      exact Tps.append (tp'.mono k39) (tk8.mono k9)
    · intro x hx
      rcases List.mem_append.mp hx with hx | hx
      · exact hgs x (List.mem_append.mpr (.inl hx))
      · exact hg1.kids x (List.mem_reverse.mp hx)
    · rw [← hall, List.reverse_append, List.reverse_append, List.reverse_reverse, List.flatMap_append, List.append_assoc]
      show fs ++ (p1 :: (p1.kids.flatMap Part.all ++ _)) = fs ++ (p1 :: ps'.reverse).flatMap Part.all
      rw [List.flatMap_cons, p1.all_kids, List.cons_append]
    · rw [sz_app, sz_rev, List.length_append]
      show _ + 1 + _ = _
      omega
    · exact fun b o e => c9 b o (ne_of_none e npl) (s8 b o (s7 b o (c6 b o (ne_of_none e nfl) (s5 b o (ne_of_none e npl) e))))
  · walk_at "go"
    have hps : ps = [] := by
      cases ps with
      | nil => rfl
      | cons a b => simp at hne
    subst hps
    rw [List.reverse_nil, List.flatMap_nil, List.append_nil] at hall
    rw [hall] at tf
    exact q fl us H4 nf (s4 _ _ hf) (tf.mono (Same.tk s4)) (s3.trans s4)
def spMany : Sp := fun vs H Q _ => ∃ (v : V) (p : Part), vs = [v] ∧ Tp H v p.data ∧ p.good ∧ p.size ≤ 60 ∧ ∀ (H' : Hp), Same H H' → Q (.int p.size) H'
theorem pure_many {K : PySem.W.Frag} {w : World} : PureOk 1 spMany (t_many_in K w spOrder) 1 := by
  refine ⟨fun vs H Q E ⟨_, _, e, _⟩ => by rw [e]; rfl, ?_⟩
  rintro vs H Q E ⟨v, p, rfl, t, hg, hz, q⟩
  show t_many_in K w _ _ [some v] H
  unfold t_many_in
  walk_at "go"
  refine ⟨v, p, rfl, t, hg, hz, fun l us H1 nl el tu s1 => ?_⟩
  refine g_lenL (.of el) ?_
  rw [tu.length, List.length_map, p.all_len]
  exact q H1 s1

/-! ### programs' rows -/
theorem Part.fine.good {fs sc : List Str} {p : Part} (h : p.fine fs sc) : p.good := ⟨⟨fs, sc, h.ok⟩, h.deep⟩
def Prog.bodies (P : Prog) : List Part := P.fs.map (·.body) ++ [P.asked]
theorem Prog.fine.goods {P : Prog} (h : P.fine) : ∀ p ∈ P.bodies, p.good ∧ p.size ≤ 60 := by
  intro p hp
  rcases List.mem_append.mp hp with hp | hp
  · obtain ⟨f, hf, rfl⟩ := List.mem_map.mp hp
    exact ⟨(h.fs f hf).body.good, (h.fs f hf).body.size⟩
  · rw [List.mem_singleton.mp hp]
    exact ⟨h.asked.good, h.asked.size⟩
theorem sz_le {k : Nat} : ∀ {a : List Part}, (∀ p ∈ a, p.size ≤ k) → sz a ≤ k * a.length
  | [], _ => Nat.zero_le _
  | p :: a, h => by
    have h1 := h p (by simp)
    have h2 := sz_le fun q hq => h q (List.mem_cons_of_mem _ hq)
    show p.size + sz a ≤ k * (a.length + 1)
    rw [Nat.mul_succ]
    omega
theorem Prog.fine.total {P : Prog} (h : P.fine) : sz P.bodies ≤ 540 := by
  have h1 := sz_le (k := 60) fun p hp => (h.goods p hp).2
  have h2 : P.bodies.length = P.fs.length + 1 := by
    show (P.fs.map _ ++ [_]).length = _
    rw [List.length_append, List.length_map]
    rfl
  have h3 := h.few
  omega
theorem Tp.prog {H : Hp} {v : V} {P : Prog} (h : Tp H v P.data) : ∃ a b u vs, v = .ref a ∧ H a = some (.tup [.ref b, u]) ∧ H b = some (.tup vs) ∧ Tps H vs (P.fs.map Fn1.data) ∧ Tp H u P.asked.data := by
  obtain ⟨a, x, u, rfl, ha, h1, h2⟩ := h.two
  obtain ⟨b, vs, rfl, hb, h3⟩ := h1.tup_inv
  exact ⟨a, b, u, vs, rfl, ha, hb, h3, h2⟩
theorem Tp.fn1 {H : Hp} {v : V} {f : Fn1} (h : Tp H v f.data) : ∃ a b u, v = .ref a ∧ H a = some (.tup [.str f.name, .ref b, u]) ∧ H b = some (.tup (f.things.map V.str)) ∧ Tp H u f.body.data := by
  obtain ⟨a, x, y, u, rfl, ha, h1, h2, h3⟩ := h.three
  obtain ⟨b, vs, rfl, hb, h4⟩ := h2.tup_inv
  have : vs = f.things.map V.str := by
    have : ∀ (ss : List Str) (vs : List V), Tps H vs (ss.map PyData.str) → vs = ss.map V.str := by
      intro ss
      induction ss with
      | nil => intro vs h; exact h.nil_inv
      | cons s ss ih =>
        intro vs h
        obtain ⟨v, us, rfl, hv, hu⟩ := Tps.cons_inv (ds := ss.map PyData.str) h
        rw [hv.str_inv, ih us hu]
        rfl
    exact this _ _ h4
  subst this
  rw [h1.str_inv] at ha
  exact ⟨a, b, u, rfl, ha, hb, h3⟩
def spLaw (K : PySem.W.Frag) : Sp := fun vs H Q _ => ∃ (a : Addr) (ns : List Int), vs = [.ref a] ∧ SqL K H a (ns.map V.int) ∧ ns.length ≤ 63 ∧ ∀ H', Q (.bl true) H'
/-- drawn programs -/
def spRight : Sp := fun vs H Q _ => ∃ (v : V) (P : Prog), vs = [v] ∧ Tp H v P.data ∧ P.fine ∧ ∀ H' : Hp, Same H H' → Q (.bl true) H'

/-! ### numbers, things, wants of functions -/
/-- f is the j-th function's name, or none is and j is how many there are -/
def NumAt (P : Prog) (f : Str) (j : Nat) : Prop := P.names[j]? = some f ∨ (f ∉ P.names ∧ j = P.names.length)
def spNum : Sp := fun vs H Q _ => ∃ (v : V) (P : Prog) (f : Str) (j : Nat), vs = [v, .str f] ∧ Tp H v P.data ∧ P.fine ∧ NumAt P f j ∧ ∀ H' : Hp, Same H H' → Q (.int j) H'
theorem pure_num {K : PySem.W.Frag} {w : World} : PureOk 2 spNum (t_number_of K w) 6 := by
  refine ⟨fun vs H Q E ⟨_, _, _, _, e, _⟩ => by rw [e]; rfl, ?_⟩
  rintro vs H Q E ⟨v, P, f, j, rfl, tP, hfine, hj, q⟩
  show t_number_of K w _ [some v, some (.str f), none, none, none, none] H
  unfold t_number_of
  obtain ⟨pa, fa, u, vs, rfl, epa, efa, tfs, tas⟩ := tP.prog
  walk_at "go"
  refine g_seqT ?_
  walk_at "go"
  refine g_ixT (.of epa) (atI_of (by decide) rfl) ?_
  refine g_isT (.of efa) fun dn hdn => ?_
  have hvl : vs.length = P.fs.length := by rw [tfs.length, List.length_map]
  have hfew := hfine.few
  refine lc_any vs.length (fun i acc H' => acc = ((P.fs.take i).map (·.name)).map V.str ∧ Same H H') hdn
    (fun H' _ s => ⟨by simp, s⟩) (fun i acc H' hi ⟨_, s⟩ => ⟨_, _, .of (s _ _ efa), List.getElem?_eq_getElem hi⟩) (fun acc H' ⟨_, s⟩ => ⟨_, .of (s _ _ efa), Nat.le_refl _⟩) ?_ ?_
  · rintro i x acc _ H8 hi hl ⟨rfl, s8⟩ hd8 ⟨rfl, hx⟩
    obtain ⟨dt, hdt, tx⟩ := tfs.get (hx _ (.of (s8 _ _ efa)))
    rw [List.getElem?_map] at hdt
    obtain ⟨f, hf, rfl⟩ := Option.map_eq_some_iff.mp hdt
    obtain ⟨a3, b3, u3, rfl, ea3, eb3, tu3⟩ := tx.fn1
    refine g_un3 (s8 _ _ ea3) ?_
    refine ⟨rfl, ?_⟩
    walk_at "go"
    refine g_T rfl ?_
    walk_at "go"
    refine lc_step hd8 hl (by show _ < 16777216; omega) fun H10 e10 c10 => ?_
    exact ⟨by rw [List.take_add_one, hf]; simp, Same.chg s8 hdn c10⟩
  rintro us H3 hd3 ⟨rfl, s3⟩
  rw [hvl, List.take_length] at hd3
  have hd3' : H3 dn = some (.lst (P.names.map V.str)) := hd3
  walk_at "go"
  refine g_inL (.of hd3') ?_
  walk_at "go"
  rcases hj with hj | ⟨hj, rfl⟩
  · refine g_T (decide_eq_true (List.mem_of_getElem? hj)) ?_
    walk_at "go"
    refine g_tyl (.of hd3') ?_
    walk_at "go"
    refine g_indexS (.of hd3') hfine.nd hj ?_
    exact q H3 s3
  · refine g_F (decide_eq_false hj) ?_
    walk_at "go"
    refine g_lenL (.of hd3') ?_
    rw [List.length_map]
    exact q H3 s3
/-- the things of the function f -/
def ThingsAt (P : Prog) (f : Str) (ts : List Str) : Prop := (∃ (j : Nat) (fn : Fn1), P.fs[j]? = some fn ∧ fn.name = f ∧ ts = fn.things) ∨ (f ∉ P.names ∧ ts = [])
def spThings : Sp := fun vs H Q _ => ∃ (v : V) (P : Prog) (f : Str) (ts : List Str), vs = [v, .str f] ∧ Tp H v P.data ∧ P.fine ∧ ThingsAt P f ts ∧ ∀ (a : Addr) (H' : Hp), H' a = some (.tup (ts.map V.str)) → Same H H' → Q (.ref a) H'
theorem pure_things {K : PySem.W.Frag} {w : World} : PureOk 2 spThings (t_things_of K w spNum) 3 := by
  refine ⟨fun vs H Q E ⟨_, _, _, _, e, _⟩ => by rw [e]; rfl, ?_⟩
  rintro vs H Q E ⟨v, P, f, ts, rfl, tP, hfine, hts, q⟩
  show t_things_of K w _ _ [some v, some (.str f), none] H
  unfold t_things_of
  walk_at "go"
  obtain ⟨j, hj, hjt⟩ : ∃ j, NumAt P f j ∧ ((∃ fn, P.fs[j]? = some fn ∧ ts = fn.things) ∨ (j = P.fs.length ∧ ts = [])) := by
    rcases hts with ⟨j, fn, h1, h2, h3⟩ | ⟨h1, h2⟩
    · exact ⟨j, .inl (by show (P.fs.map _)[j]? = _; rw [List.getElem?_map, h1, ← h2]; rfl), .inl ⟨fn, h1, h3⟩⟩
    · exact ⟨_, .inr ⟨h1, rfl⟩, .inr ⟨by show (P.fs.map _).length = _; rw [List.length_map], h2⟩⟩
  refine ⟨v, P, f, j, rfl, tP, hfine, hj, fun H1 s1 => ?_⟩
  obtain ⟨pa, fa, u, vs, rfl, epa, efa, tfs, tas⟩ := (tP.mono (Same.tk s1)).prog
  have hvl : vs.length = P.fs.length := by rw [tfs.length, List.length_map]
  walk_at "go"
  refine g_ixT (.of epa) (atI_of (by decide) rfl) ?_
  walk_at "go"
  refine g_lenT (.of efa) ?_
  walk_at "go"
  rcases hjt with ⟨fn, h1, rfl⟩ | ⟨rfl, rfl⟩
  · have hlt := (List.getElem?_eq_some_iff.mp h1).1
    refine g_F (decide_eq_false (by omega)) ?_
    walk_at "go"
    refine g_ixT (.of epa) (atI_of (by decide) rfl) ?_
    walk_at "go"
    obtain ⟨x, hx, tx⟩ := tfs.at (i := j) (d := fn.data) (by rw [List.getElem?_map, h1]; rfl)
    refine g_ixT (.of efa) (atI_nat hx) ?_
    walk_at "go"
    obtain ⟨a3, b3, u3, rfl, ea3, eb3, tu3⟩ := tx.fn1
    refine g_ixT (.of ea3) (atI_of (by decide) rfl) ?_
    exact q b3 H1 eb3 s1
  · refine g_T (decide_eq_true (by omega)) ?_
    walk_at "go"
    intro a2 H2 na2 ea2 s2
    exact q a2 H2 ea2 (s1.trans s2)
def spWants : Sp := fun vs H Q _ => ∃ (v : V) (P : Prog) (f : Str) (ts : List Str), vs = [v, .str f] ∧ Tp H v P.data ∧ P.fine ∧ ThingsAt P f ts ∧ ∀ (H' : Hp), Same H H' → Q (.int ts.length) H'
theorem pure_wants {K : PySem.W.Frag} {w : World} : PureOk 2 spWants (t_wants K w spThings) 2 := by
  refine ⟨fun vs H Q E ⟨_, _, _, _, e, _⟩ => by rw [e]; rfl, ?_⟩
  rintro vs H Q E ⟨v, P, f, ts, rfl, tP, hfine, hts, q⟩
  show t_wants K w _ _ [some v, some (.str f)] H
  unfold t_wants
  walk_at "go"
  refine ⟨v, P, f, ts, rfl, tP, hfine, hts, fun a H1 ea s1 => ?_⟩
  refine g_lenT (.of ea) ?_
  rw [List.length_map]
  exact q H1 s1

/-! ### parts by their words -/
def Part.word : Part → Str
  | .num _ => "number"
  | .name _ => "name"
  | .fn _ => "fun"
  | .one k _ => k.word
  | .two k _ _ => k.word
  | .whn _ _ _ => "when"
  | .letp _ _ => "let"
  | .shut _ => "shut"
def Part.args : Part → List PyData
  | .num n => [.int n]
  | .name x => [.str x]
  | .fn f => [.str f]
  | .one _ a => [a.data]
  | .two _ a b => [a.data, b.data]
  | .whn a b c => [a.data, b.data, c.data]
  | .letp r a => [.tuple r.datas, a.data]
  | .shut a => [a.data]
theorem Part.data_eq (p : Part) : p.data = .tuple (.str p.word :: p.args) := by cases p <;> rfl
/-- the parts that are things of a part's tuple -/
def Part.subs : Part → List Part
  | .one _ a => [a]
  | .two _ a b => [a, b]
  | .whn a b c => [a, b, c]
  | .shut a => [a]
  | _ => []
def plainWord (x : Str) : Prop := x ∉ [("number" : Str), "fun", "let", "name"]
theorem Tp.part {H : Hp} {v : V} {p : Part} (h : Tp H v p.data) : ∃ a xs, v = .ref a ∧ H a = some (.tup (.str p.word :: xs)) ∧ Tps H xs p.args := by
  rw [p.data_eq] at h
  obtain ⟨a, xs, rfl, h1, h2⟩ := h.tup_inv
  obtain ⟨x, us, rfl, hx, hu⟩ := h2.cons_inv
  rw [hx.str_inv] at h1
  exact ⟨a, us, rfl, h1, hu⟩
mutual
/-- how many parts, those within shut ones too -/
def Part.big : Part → Nat
  | .num _ => 1
  | .name _ => 1
  | .fn _ => 1
  | .one _ a => 1 + a.big
  | .two _ a b => 1 + (a.big + b.big)
  | .whn a b c => 1 + (a.big + (b.big + c.big))
  | .letp r a => 1 + (r.big + a.big)
  | .shut a => 1 + a.big
def Rows.big : Rows → Nat
  | .nil => 0
  | .cons _ a r => a.big + r.big
end
def bsum : List Part → Nat
  | [] => 0
  | p :: r => p.big + bsum r
mutual
/-- a part of which nothing is asked but that its functions are there; shut ones too -/
def Part.wf (fs : List Str) : Part → Prop
  | .num _ => True
  | .name _ => True
  | .fn f => f ∈ fs
  | .one _ a => a.wf fs
  | .two _ a b => a.wf fs ∧ b.wf fs
  | .whn a b c => a.wf fs ∧ b.wf fs ∧ c.wf fs
  | .letp r a => r.wf fs ∧ a.wf fs
  | .shut a => a.wf fs
def Rows.wf (fs : List Str) : Rows → Prop
  | .nil => True
  | .cons _ a r => a.wf fs ∧ r.wf fs
end
/-- what stands ahead of a part's gives; the things that it is given, in their order -/
def Part.head : Part → Part
  | .two .give a _ => a.head
  | p => p
def Part.given : Part → List Part
  | .two .give a b => a.given ++ [b]
  | _ => []
/-- how many things f wants -/
def Prog.wantsOf (P : Prog) (f : Str) : Nat := match P.fs.find? (fun g => decide (g.name = f)) with
  | some g => g.things.length
  | none => 0
/-- is it a worth -/
def Part.worth (P : Prog) (p : Part) : Bool := decide (p.word ∈ [("number" : Str), "pair"]) || match p.head with
  | .fn f => decide (p.given.length < P.wantsOf f)
  | _ => false
/-- rows of a list -/
def Rows.of : List (Str × Part) → Rows
  | [] => .nil
  | q :: r => .cons q.1 q.2 (Rows.of r)
def rowD (q : Str × Part) : PyData := .tuple [.str q.1, q.2.data]
/-- a pen's is no tuple -/
theorem pen_tup {H : Hp} {pen L b : Addr} {xs : List V} (h : PenAt H pen L) (e : H b = some (.tup xs)) : b ≠ pen := by
  obtain ⟨_, _, _, hp, _⟩ := h
  rintro rfl
  rw [hp] at e
  cases e
/-! layable, so deep -/
def layD (k : Nat) (d : PyData) : Prop := PyData.canLay0 d = true ∧ PyData.depth d ≤ k
def Part.lk (k : Nat) (p : Part) : Prop := layD k p.data
theorem layD.mono {j k : Nat} {d : PyData} (h : layD j d) (hjk : j ≤ k) : layD k d := ⟨h.1, Nat.le_trans h.2 hjk⟩
theorem Part.lk.mono {j k : Nat} {p : Part} (h : p.lk j) (hjk : j ≤ k) : p.lk k := layD.mono h hjk
theorem cut_tail {x : V} {xs : List V} : cutV (x :: xs) (some 1) none = xs := by
  unfold cutV
  rw [HT.sIx_none, show (1 : Int) = ((1 : Nat) : Int) from rfl, HT.sIx_nat, List.length_cons, Nat.min_eq_left (by omega)]
  show xs.take _ = xs
  rw [List.take_of_length_le (by omega)]
def Rows.list : Rows → List (Str × Part)
  | .nil => []
  | .cons x a r => (x, a) :: r.list
theorem Rows.list_datas : ∀ r : Rows, r.datas = r.list.map rowD
  | .nil => rfl
  | .cons x a r => by
    show _ :: r.datas = _ :: r.list.map rowD
    rw [Rows.list_datas r]
    rfl
theorem Rows.list_parts : ∀ r : Rows, r.parts = r.list.map (·.2)
  | .nil => rfl
  | .cons x a r => by
    show a :: r.parts = _
    rw [Rows.list_parts r]
    rfl
theorem Rows.list_names : ∀ r : Rows, r.names = r.list.map (·.1)
  | .nil => rfl
  | .cons x a r => by
    show x :: r.names = _
    rw [Rows.list_names r]
    rfl

/-! ### pens, parts: for the search -/
theorem ne_pen {H : Hp} {pen L a : Addr} (h : PenAt H pen L) (h' : Fr H a) : pen ≠ a := (h.ne h').1
theorem ne_penL {H : Hp} {pen L a : Addr} (h : PenAt H pen L) (h' : Fr H a) : L ≠ a := (h.ne h').2
theorem Chg.to_pen {H H' : Hp} {pen L b : Addr} {xs : List V} (c : Chg pen H H') (hP : PenAt H pen L) (h : H b = some (.tup xs)) : H' b = some (.tup xs) := c b _ (pen_tup hP h) h
local macro_rules | `(tactic| walk_at "at") => `(tactic| first
  | assumption
  | ((with_reducible refine Same.to (H := ?gh) ?gs ?gt); (case gs => assumption); walk_at "at")
  | ((with_reducible refine Chg.to_pen (H := ?gh) (pen := ?ga) (L := ?gl) (xs := ?gx) ?gs ?gp ?gt); (case gs => assumption); (case gp => walk_at "pen0"); (case gt => walk_at "at"))
  | ((with_reducible refine Chg.to (H := ?gh) (a := ?ga) ?gs ?gt ?gn); (case gs => assumption); (case gn => walk_at "ne"); (case gt => walk_at "at")))
local macro_rules | `(tactic| walk_at "free") => `(tactic| first
  | assumption
  | ((with_reducible refine Same.free (H' := ?gh) ?gs ?gt); (case gs => assumption); walk_at "free")
  | ((with_reducible refine Chg.free (H' := ?gh) (a := ?ga) ?gs ?gn ?gt); (case gs => assumption); (case gn => walk_at "ne"); walk_at "free"))
local macro_rules | `(tactic| walk_at "ne") => `(tactic| first
  | assumption
  | (refine Ne.symm ?gt; assumption)
  | ((refine ne_fr (H := ?gh) (o := ?go) ?g1 ?g2); (case g2 => assumption); (case g1 => walk_at "at"))
  | ((refine Ne.symm (ne_fr (H := ?gh) (o := ?go) ?g1 ?g2)); (case g2 => assumption); (case g1 => walk_at "at"))
  | ((refine ne_pen (H := ?gh) (L := ?gl) ?g1 ?g2); (case g2 => assumption); (case g1 => walk_at "pen0"))
  | ((refine ne_penL (H := ?gh) (pen := ?gl) ?g1 ?g2); (case g2 => assumption); (case g1 => walk_at "pen0"))
  | ((refine Ne.symm (ne_pen (H := ?gh) (L := ?gl) ?g1 ?g2)); (case g2 => assumption); (case g1 => walk_at "pen0"))
  | ((refine Ne.symm (ne_penL (H := ?gh) (pen := ?gl) ?g1 ?g2)); (case g2 => assumption); (case g1 => walk_at "pen0")))
local macro_rules | `(tactic| walk_at "pen0") => `(tactic| first
  | assumption
  | ((with_reducible refine PenAt.same (H := ?gh) ?gt ?gs); (case gs => assumption); walk_at "pen0"))
local macro_rules | `(tactic| walk_at "pen") => `(tactic| first
  | assumption
  | ((with_reducible refine PenAt.same (H := ?gh) ?gt ?gs); (case gs => assumption); walk_at "pen")
  | ((with_reducible refine PenAt.chg (H := ?gh) (d := ?gd) ?gt ?gs ?g1 ?g2); (case gs => assumption); (case g1 => walk_at "ne"); (case g2 => walk_at "ne"); walk_at "pen"))
local macro_rules | `(tactic| walk_at "tk") => `(tactic| first
  | assumption
  | exact Tk.refl _
  | ((with_reducible refine Tk.same (H1 := ?gh) ?gt ?gs); (case gs => assumption); walk_at "tk")
  | ((with_reducible refine Tk.lst (H1 := ?gh) (a := ?ga) (ys := ?gy) ?gt ?gs ?gl); (case gs => assumption); (case gl => walk_at "at"); walk_at "tk")
  | ((with_reducible refine Tk.dct (H1 := ?gh) (a := ?ga) (kvs := ?gy) ?gt ?gs ?gl); (case gs => assumption); (case gl => walk_at "at"); walk_at "tk")
  | ((with_reducible refine Tk.trans (H1 := ?gh) ?gt (PenAt.tk (pen := ?gp) (L := ?gq) ?gl ?gs)); (case gs => assumption); (case gl => walk_at "pen"); walk_at "tk")
  | ((with_reducible refine Tk.trans (H1 := ?gh) ?gt ?gs); (case gs => assumption); walk_at "tk"))
local macro_rules | `(tactic| walk_at "same") => `(tactic| first
  | assumption
  | exact Same.refl _
  | ((with_reducible refine Same.more (H1 := ?gh) ?gt ?gs); (case gs => assumption); walk_at "same")
  | ((with_reducible refine Same.more2 (H1 := ?gh) (d := ?gd) ?gt ?gs ?gf); (case gs => assumption); (case gf => walk_at "free"); walk_at "same"))
local macro_rules | `(tactic| walk_at "chg") => `(tactic| first
  | assumption
  | exact Chg.refl
  | ((with_reducible refine Chg.trans (H1 := ?gh) ?gt ?gs); (case gs => assumption); walk_at "chg")
  | ((with_reducible refine Chg.trans (H1 := ?gh) ?gt (Chg.same ?gs)); (case gs => assumption); walk_at "chg")
  | ((with_reducible refine Chg.fresh (H1 := ?gh) (d := ?gd) ?gt ?gf ?gs); (case gs => assumption); (case gf => walk_at "free"); walk_at "chg"))
local macro_rules | `(tactic| walk_at "tps") => `(tactic| first
  | assumption
  | exact Tps.nil
  | (with_reducible (refine Tps.cons ?g1 ?g2); (case g1 => walk_at "tp"); walk_at "tps")
  | ((refine Tps.to (H := ?gh) ?gt ?gk); (case gt => assumption); walk_at "tk"))
local macro_rules | `(tactic| walk_at "tp") => `(tactic| first
  | assumption
  | exact Tp.str _
  | exact Tp.int _
  | exact Tp.bl _
  | exact Tp.non
  | ((refine Tp.to (H := ?gh) ?gt ?gk); (case gt => assumption); walk_at "tk")
  | ((refine Tp.tup (xs := ?gx) ?g1 ?g2); (case g1 => walk_at "at"); walk_at "tps"))
local macro_rules | `(tactic| walk_at "g2") => `(tactic| first
  | walk_at "g1"
  | with_reducible refine New.mk fun p H n e s => ?_
  | with_reducible refine Put.mk fun H e c => ?_
  | ((with_reducible refine g_ixTa (xs := ?gx) (v := ?gv) ?gh ?ge ?gi ?gt); (case gh => walk_at "at"); (case ge => exact rfl); (case gi => decide))
  | ((with_reducible refine g_ixLa (xs := ?gx) (v := ?gv) ?gh ?ge ?gi ?gt); (case gh => walk_at "at"); (case ge => exact rfl); (case gi => decide))
  | ((with_reducible refine g_tyl (xs := ?gx) (SqL.of ?gh) ?gt); (case gh => walk_at "at"))
  | ((with_reducible refine g_T ?gh ?gt); (case gh => exact rfl))
  | ((with_reducible refine g_F ?gh ?gt); (case gh => exact rfl))
  | ((with_reducible refine g_lenL (xs := ?gx) (SqL.of ?gh) ?gt); (case gh => walk_at "at"))
  | ((with_reducible refine g_lenT (xs := ?gx) (SqT.of ?gh) ?gt); (case gh => walk_at "at"))
  | ((with_reducible refine g_tupleL (xs := ?gx) (SqL.of ?gh) ?gt); (case gh => walk_at "at"))
  | ((with_reducible refine g_tupleT (xs := ?gx) (SqT.of ?gh) ?gt); (case gh => walk_at "at"))
  | ((with_reducible refine g_listL (xs := ?gx) (SqL.of ?gh) ?gt); (case gh => walk_at "at"))
  | ((with_reducible refine g_listT (xs := ?gx) (SqT.of ?gh) ?gt); (case gh => walk_at "at"))
  | ((refine g_un2 (x := ?gx) (y := ?gy) ?gh ?gt); (case gh => walk_at "at"); (try dsimp only [List.set]))
  | ((refine g_un3 (x := ?gx) (y := ?gy) (z := ?gz) ?gh ?gt); (case gh => walk_at "at"); (try dsimp only [List.set]))
  | ((with_reducible refine g_inX (xs := ?gx) (r := true) ?gh ?gf ?ge ?gt); (case gh => walk_at "at"); (case gf => exact rfl); (case ge => exact rfl))
  | ((with_reducible refine g_inX (xs := ?gx) (r := false) ?gh ?gf ?ge ?gt); (case gh => walk_at "at"); (case gf => exact rfl); (case ge => exact rfl))
  | ((with_reducible refine g_notInX (xs := ?gx) (r := true) ?gh ?gf ?ge ?gt); (case gh => walk_at "at"); (case gf => exact rfl); (case ge => exact rfl))
  | ((with_reducible refine g_notInX (xs := ?gx) (r := false) ?gh ?gf ?ge ?gt); (case gh => walk_at "at"); (case gf => exact rfl); (case ge => exact rfl))
  | ((with_reducible refine g_inK (kvs := ?gk) (r := false) ?gh ?ge ?gt); (case gh => assumption); (case ge => exact rfl))
  | ((with_reducible refine g_inK (kvs := ?gk) (r := true) ?gh ?ge ?gt); (case gh => assumption); (case ge => exact rfl))
  | ((with_reducible refine g_dnew ?gt))
  | ((with_reducible refine g_isTa (xs := ?gx) ?gh ?gt); (case gh => walk_at "at"))
  | ((with_reducible refine g_isLa (xs := ?gx) ?gh ?gt); (case gh => walk_at "at")))
local macro_rules | `(tactic| walk_at "gg") => `(tactic| repeat walk_at "g2")
local macro_rules | `(tactic| walk_at "len") => `(tactic| (show _ ≤ 16777216; simp only [List.length_append, List.length_cons, List.length_nil, List.length_map, List.length_reverse]; omega))
local macro_rules | `(tactic| walk_at "g2") => `(tactic| first
  | ((with_reducible refine g_neNil (xs := ?gx) ?gh ?gi ?gt); (case gi => walk_at "at"); (case gh => walk_at "at"))
  | ((with_reducible refine g_eqNil (xs := ?gx) ?gh ?gi ?gt); (case gi => walk_at "at"); (case gh => walk_at "at"))
  | ((with_reducible refine g_inGT (xs := ?gx) (r := true) ?gh ?gf ?ge ?gt); (case gh => assumption); (case gf => exact rfl); (case ge => exact rfl))
  | ((with_reducible refine g_inGT (xs := ?gx) (r := false) ?gh ?gf ?ge ?gt); (case gh => assumption); (case gf => exact rfl); (case ge => exact rfl))
  | with_reducible refine g_neBI ?_ | with_reducible refine g_neBS ?_ | with_reducible refine g_eqBI ?_ | with_reducible refine g_eqBS ?_
  | with_reducible refine g_dictZ ?_
  | with_reducible refine g_zipM ?_
  | ((with_reducible refine g_dict (kvs := ?gx) ?gh ?gt); (case gh => walk_at "at"))
  | ((with_reducible refine g_addL (xs := ?gx) (ys := ?gy) ?gh ?gi ?gl ?gt); (case gh => walk_at "at"); (case gi => walk_at "at"); (case gl => walk_at "len")))
local macro_rules | `(tactic| walk_at "draw") => `(tactic| ((refine g_draw (L := ?gl) ?gp ?g0 ?g1 ?gq); (case gp => walk_at "pen"); (case g0 => decide); (case g1 => decide)))
local macro_rules | `(tactic| walk_at "g2") => `(tactic| first
  | with_reducible refine g_fld ?_ | with_reducible refine g_sfld ?_ | with_reducible refine g_meth ?_ | with_reducible refine g_make ?_
  | ((with_reducible refine g_fldr (C := ?gC) (dx := ?gd) (fs := ?gx) (v := ?gw) ?gh ?gc ?gn ?gv ?gt); (case gh => walk_at "at"); (case gc => assumption); (case gn => assumption); (case gv => exact rfl))
  | ((with_reducible refine g_methr (dx := ?gd) (fs := ?gx) ?gh ?gn ?gt); (case gh => walk_at "at"); (case gn => exact rfl))
  | with_reducible refine g_maker fun x dx H n e s => ?_)
local macro_rules | `(tactic| walk_at "g2") => `(tactic| first
  | with_reducible refine g_calE ?_ | with_reducible refine g_calS ?_ | with_reducible refine g_calN ?_ | with_reducible refine g_raiseO ?_ | with_reducible refine g_raiseI ?_ | with_reducible refine g_tryK ?_)

/-! ### (k05a up to the places, for laws with auto) -/
/-! ### programs, their bodies and places -/
def placed (n : Nat) : List Part → List (Part × Nat)
  | [] => []
  | b :: r => b.all.map (fun p => (p, n)) ++ placed (n + 1) r
theorem Prog.bodies_len (P : Prog) : P.bodies.length = P.fs.length + 1 := by
  show (P.fs.map _ ++ [_]).length = _
  rw [List.length_append, List.length_map]
  rfl
def spBodies : Sp := fun vs H Q _ => ∃ (v : V) (P : Prog), vs = [v] ∧ Tp H v P.data ∧ P.fine ∧ ∀ (l : Addr) (us : List V) (H' : Hp), H l = none → H' l = some (.lst us) → Tps H' us (P.bodies.map Part.data) → Same H H' → Q (.ref l) H'
theorem pure_bodies {K : PySem.W.Frag} {w : World} : PureOk 1 spBodies (t_bodies K w) 4 := by
  refine ⟨fun vs H Q E ⟨_, _, e, _⟩ => by rw [e]; rfl, ?_⟩
  rintro vs H Q E ⟨v, P, rfl, tP, hfine, q⟩
  show t_bodies K w _ [some v, none, none, none] H
  unfold t_bodies
  obtain ⟨pa, fa, u, vs, rfl, epa, efa, tfs, tas⟩ := tP.prog
  walk_at "go"
  refine g_seqT ?_
  walk_at "go"
  refine g_ixT (.of epa) (atI_of (by decide) rfl) ?_
  refine g_isT (.of efa) fun dn hdn => ?_
  have hvl : vs.length = P.fs.length := by rw [tfs.length, List.length_map]
  have hfew := hfine.few
  refine lc_any vs.length (fun i acc H' => Tps H' acc ((P.fs.take i).map fun f => f.body.data) ∧ Same H H' ∧ acc.length = i) hdn
    (fun H' _ s => ⟨.nil, s, rfl⟩) (fun i acc H' hi ⟨_, s, _⟩ => ⟨_, _, .of (s _ _ efa), List.getElem?_eq_getElem hi⟩) (fun acc H' ⟨_, s, _⟩ => ⟨_, .of (s _ _ efa), Nat.le_refl _⟩) ?_ ?_
  · rintro i x acc _ H8 hi hl ⟨tacc, s8, hacc⟩ hd8 ⟨rfl, hx⟩
    obtain ⟨dt, hdt, tx⟩ := tfs.get (hx _ (.of (s8 _ _ efa)))
    rw [List.getElem?_map] at hdt
    obtain ⟨f, hf, rfl⟩ := Option.map_eq_some_iff.mp hdt
    obtain ⟨a3, b3, u3, rfl, ea3, eb3, tu3⟩ := tx.fn1
    refine g_un3 (s8 _ _ ea3) ?_
    refine ⟨rfl, ?_⟩
    walk_at "go"
    refine g_T rfl ?_
    walk_at "go"
    refine lc_step hd8 hl (by show _ < 16777216; omega) fun H10 e10 c10 => ?_
    refine ⟨?_, Same.chg s8 hdn c10, by simp [hacc]⟩
    rw [List.take_add_one, hf, List.map_append]
    have k10 : Tk H8 H10 := c10.tkl hd8
    exact Tps.append (tacc.mono k10) (.one ((tu3.mono (Same.tk s8)).mono k10))
  rintro us H3 hd3 ⟨tu, s3, hul⟩
  rw [hvl, List.take_length] at tu
  walk_at "go"
  refine g_ixT (.of (s3 _ _ epa)) (atI_of (by decide) rfl) ?_
  walk_at "go"
  intro l4 H4 nl4 el4 s4
  walk_at "go"
  refine g_addL (s4 _ _ hd3) el4 (by rw [hul, hvl]; show _ + 1 ≤ 16777216; omega) fun rl H5 nr er s5 => ?_
  have s05 : Same H H5 := s3.trans (s4.trans s5)
  refine q rl _ H5 (s3.free (s4.free nr)) er ?_ s05
  show Tps H5 (us ++ [u]) ((P.fs.map (·.body) ++ [P.asked]).map Part.data)
  rw [List.map_append, List.map_map]
  exact Tps.append (tu.mono (Same.tk (s4.trans s5))) (.one (tas.mono (Same.tk s05)))
theorem cut_toV {xs : List V} (k : Nat) : cutV xs none (some (k : Int)) = xs.take k := by
  unfold cutV
  rw [HT.sIx_none, HT.sIx_nat, Nat.sub_zero, List.drop_zero]
  by_cases h : k ≤ xs.length
  · rw [Nat.min_eq_left h]
  · rw [Nat.min_eq_right (by omega), List.take_of_length_le (Nat.le_refl _), List.take_of_length_le (by omega)]
def spPlace : Sp := fun vs H Q _ => ∃ (v : V) (P : Prog) (f : Str) (j : Nat), vs = [v, .str f] ∧ Tp H v P.data ∧ P.fine ∧ NumAt P f j ∧ ∀ H' : Hp, Same H H' → Q (.int (sz (P.bodies.take j))) H'
theorem pure_place {K : PySem.W.Frag} {w : World} : PureOk 2 spPlace (t_body_place K w spBodies spNum spMany) 3 := by
  refine ⟨fun vs H Q E ⟨_, _, _, _, e, _⟩ => by rw [e]; rfl, ?_⟩
  rintro vs H Q E ⟨v, P, f, j, rfl, tP, hfine, hj, q⟩
  show t_body_place K w _ _ _ _ [some v, some (.str f), none] H
  unfold t_body_place
  walk_at "go"
  refine g_seqL ?_
  walk_at "go"
  refine ⟨v, P, rfl, tP, hfine, fun l us H1 nl el tu s1 => ?_⟩
  walk_at "go"
  refine ⟨v, P, f, j, rfl, tP.mono (Same.tk s1), hfine, hj, fun H2 s2 => ?_⟩
  walk_at "go"
  have el2 := s2 _ _ el
  have tu2 := tu.mono (Same.tk s2)
  refine g_slL (.of el2) fun l3 H3 nl3 el3 s3 => ?_
  rw [cut_toV] at el3
  have tu3 : Tps H3 (us.take j) ((P.bodies.take j).map Part.data) := by
    rw [List.map_take]
    exact (tu2.mono (Same.tk s3)).take j
  refine g_isL (.of el3) fun dn hdn => ?_
  have hul : (us.take j).length = (P.bodies.take j).length := by rw [tu3.length, List.length_map]
  have hbl := P.bodies_len
  have hfew := hfine.few
  have hj9 : (P.bodies.take j).length ≤ 9 := by rw [List.length_take]; omega
  refine lc_any (us.take j).length (fun i acc H' => acc = (((P.bodies.take j).take i).map fun q => (q.size : Int)).map V.int ∧ Same H3 H') hdn
    (fun H' _ s => ⟨by simp, s⟩) (fun i acc H' hi ⟨_, s⟩ => ⟨_, _, .of (s _ _ el3), List.getElem?_eq_getElem hi⟩) (fun acc H' ⟨_, s⟩ => ⟨_, .of (s _ _ el3), Nat.le_refl _⟩) ?_ ?_
  · rintro i x acc _ H8 hi hl ⟨rfl, s8⟩ hd8 ⟨rfl, hx⟩
    obtain ⟨dt, hdt, tx⟩ := tu3.get (hx _ (.of (s8 _ _ el3)))
    rw [List.getElem?_map] at hdt
    obtain ⟨p2, hp2, rfl⟩ := Option.map_eq_some_iff.mp hdt
    obtain ⟨hg2, hz2⟩ := hfine.goods p2 (List.mem_of_mem_take (List.mem_of_getElem? hp2))
    walk_at "go"
    refine ⟨rfl, ?_⟩
    walk_at "go"
    refine g_T rfl ?_
    walk_at "go"
    refine ⟨x, p2, rfl, tx.mono (Same.tk s8), hg2, hz2, fun H9 s9 => ?_⟩
    have hd9 := s9 _ _ hd8
    refine lc_step hd9 hl (by show _ < 16777216; omega) fun H10 e10 c10 => ?_
    exact ⟨by rw [List.take_add_one, hp2]; simp, Same.chg (s8.trans s9) hdn c10⟩
  rintro acc H4 hd4 ⟨rfl, s4⟩
  rw [hul, List.take_length] at hd4
  refine ⟨dn, _, rfl, .of hd4, ?_⟩
  rw [sum_sz]
  exact q H4 (s1.trans (s2.trans (s3.trans s4)))
def spPlaces : Sp := fun vs H Q _ => ∃ (v : V) (P : Prog), vs = [v] ∧ Tp H v P.data ∧ P.fine ∧ ∀ (l : Addr) (us : List V) (H' : Hp), H l = none → H' l = some (.lst us) → Tps H' us ((placed 0 P.bodies).map pd) → Same H H' → Q (.ref l) H'
/-! ### nodes: the grounds of parts -/
/-- all but some objects stays -/
def NBut (M : List Addr) (H H' : Hp) : Prop := ∀ b o, b ∉ M → H b = some o → H' b = some o
section
variable {M M' : List Addr} {H H1 H' : Hp} {a d : Addr}
theorem NBut.refl : NBut M H H := fun _ _ _ e => e
theorem NBut.same (s : Same H H') : NBut M H H' := fun b o _ e => s b o e
theorem NBut.chg (c : Chg a H H') (h : a ∈ M) : NBut M H H' := fun b o n e => c b o (fun z => n (z ▸ h)) e
theorem NBut.trans (i : NBut M H H1) (j : NBut M H1 H') : NBut M H H' := fun b o n e => j b o n (i b o n e)
theorem NBut.fresh (i : NBut M H H1) (hd : H d = none) (c : Chg d H1 H') : NBut M H H' := fun b o n e => c b o (ne_of_none e hd) (i b o n e)
theorem NBut.sub (i : NBut M H H') (h : ∀ x ∈ M, x ∈ M') : NBut M' H H' := fun b o n e => i b o (fun z => n (h b z)) e
theorem NBut.to {o : HO} (i : NBut M H H') (e : H d = some o) (n : d ∉ M) : H' d = some o := i d o n e
theorem NBut.tk (i : NBut M H H') (h : ∀ x ∈ M, ∀ ys, H x ≠ some (.tup ys)) : Tk H H' := fun b xs e => i b _ (fun z => h b z xs e) e
end
/-- what a name part names: a thing, or a row by its place -/
inductive Nm | thing (k : Nat) | row (a : Nat)
def Nm.data : Nm → PyData
  | .thing k => .tuple [.str "thing", .int (k : Nat)]
  | .row a => .tuple [.str "row", .int (a : Nat)]
def nmData : Option Nm → PyData
  | none => .none
  | some m => m.data
abbrev Known := Str → Option Nm
def kput (kn : Known) (x : Str) (m : Nm) : Known := fun y => if y = x then some m else kn y
def Rows.knows : Rows → Nat → Known → Known
  | .nil, _, kn => kn
  | .cons x a r, i, kn => r.knows (i + a.size) (kput kn x (.row i))
theorem knows_old : ∀ {r : Rows} {i : Nat} {kn : Known} {x : Str}, (kn x).isSome = true → (r.knows i kn x).isSome = true
  | .nil, i, kn, x, h => h
  | .cons y a r, i, kn, x, h => by
    refine knows_old (r := r) ?_
    unfold kput
    split
    · rfl
    · exact h
theorem knows_new : ∀ {r : Rows} {i : Nat} {kn : Known} {x : Str}, x ∈ r.names → (r.knows i kn x).isSome = true
  | .nil, i, kn, x, h => by cases h
  | .cons y a r, i, kn, x, h => by
    have h' : x ∈ y :: r.names := h
    rcases List.mem_cons.mp h' with rfl | h2
    · refine knows_old (r := r) ?_
      unfold kput
      rw [if_pos rfl]
      rfl
    · exact knows_new (r := r) h2
/-- the known names, kept in a dict -/
def KnowAt (H : Hp) (d : Addr) (kn : Known) (n : Nat) : Prop := ∃ kvs, H d = some (.dK kvs) ∧ kvs.length ≤ n ∧ ∀ x m, kn x = some m → ∃ v, valV kvs (.inr x) = some v ∧ Tp H v m.data
theorem KnowAt.mono {H H' : Hp} {d : Addr} {kn : Known} {n m : Nat} (h : KnowAt H d kn n) (e : ∀ kvs, H d = some (.dK kvs) → H' d = some (.dK kvs)) (k : Tk H H') (hn : n ≤ m) : KnowAt H' d kn m := by
  obtain ⟨kvs, e1, l, f⟩ := h
  exact ⟨kvs, e kvs e1, Nat.le_trans l hn, fun x m hm => (f x m hm).imp fun v ⟨a, b⟩ => ⟨a, b.mono k⟩⟩
theorem KnowAt.same {H H' : Hp} {d : Addr} {kn : Known} {n : Nat} (h : KnowAt H d kn n) (s : Same H H') : KnowAt H' d kn n := h.mono (fun _ e => s _ _ e) (Same.tk s) (Nat.le_refl _)
theorem KnowAt.empty {H : Hp} {d : Addr} (e : H d = some (.dK [])) : KnowAt H d (fun _ => none) 0 := ⟨[], e, Nat.le_refl _, fun _ _ h => by cases h⟩
/-- a name more is known -/
theorem g_setKn {H : Hp} {d a : Addr} {kn : Known} {n : Nat} {x : Str} {m : Nm} {R : Hp → Prop} (h : KnowAt H d kn n) (hn : n ≤ 1000) (ha : Tp H (.ref a) m.data)
    (q : ∀ H', KnowAt H' d (kput kn x m) (n + 1) → Chg d H H' → Tk H H' → R H') : rSetG (.ref d) (.str x) (.ref a) H R := by
  obtain ⟨kvs, e, l, f⟩ := h
  refine g_setK e (k := .inr x) rfl (by show _ < 16777216; omega) fun H' e' c' => ?_
  have k' : Tk H H' := c'.tk fun xs z => by rw [e] at z; cases z
  refine q H' ⟨_, e', ?_, fun y m' hy => ?_⟩ c' k'
  · have := length_putK kvs (Sum.inr x : Key) (V.ref a)
    omega
  · rw [valV_put]
    unfold kput at hy
    by_cases hyx : y = x
    · subst hyx
      rw [if_pos rfl] at hy
      cases hy
      exact ⟨_, if_pos rfl, ha.mono k'⟩
    · rw [if_neg hyx] at hy
      obtain ⟨v, h1, h2⟩ := f y m' hy
      exact ⟨v, by rw [if_neg (fun z => hyx (Sum.inr.inj z))]; exact h1, h2.mono k'⟩
/-- the places of some parts, one behind the other -/
def placesOf : List Part → Nat → List Nat
  | [], _ => []
  | p :: ps, i => i :: placesOf ps (i + p.size)
theorem placesOf_len : ∀ (ps : List Part) (i : Nat), (placesOf ps i).length = ps.length
  | [], _ => rfl
  | p :: ps, i => congrArg (· + 1) (placesOf_len ps _)
theorem placesOf_at : ∀ {ps : List Part} {i k : Nat} {p : Part}, ps[k]? = some p → (placesOf ps i)[k]? = some (i + sz (ps.take k))
  | [], i, k, p, h => by simp at h
  | q :: ps, i, 0, p, h => by
    show some i = some (i + 0)
    rfl
  | q :: ps, i, k + 1, p, h => by
    show (placesOf ps (i + q.size))[k]? = some (i + (q.size + sz (ps.take k)))
    rw [placesOf_at (ps := ps) h, Nat.add_assoc]
theorem placesOf_app : ∀ (ps qs : List Part) (i : Nat), placesOf (ps ++ qs) i = placesOf ps i ++ placesOf qs (i + sz ps)
  | [], qs, i => rfl
  | p :: ps, qs, i => by
    show i :: placesOf (ps ++ qs) (i + p.size) = i :: (placesOf ps (i + p.size) ++ placesOf qs (i + (p.size + sz ps)))
    rw [placesOf_app ps qs, Nat.add_assoc]
/-- of a place: its part, the places within it, what it names -/
structure Gd where
  part : Part
  inner : List Nat
  named : Option Nm
mutual
def Part.gds : Part → Nat → Known → List Gd
  | .num n, i, kn => [⟨.num n, [], none⟩]
  | .name x, i, kn => [⟨.name x, [], kn x⟩]
  | .fn f, i, kn => [⟨.fn f, [], none⟩]
  | .one k a, i, kn => ⟨.one k a, [i + 1], none⟩ :: a.gds (i + 1) kn
  | .two k a b, i, kn => ⟨.two k a b, [i + 1, i + 1 + a.size], none⟩ :: (a.gds (i + 1) kn ++ b.gds (i + 1 + a.size) kn)
  | .whn a b c, i, kn => ⟨.whn a b c, [i + 1, i + 1 + a.size, i + 1 + a.size + b.size], none⟩ :: (a.gds (i + 1) kn ++ (b.gds (i + 1 + a.size) kn ++ c.gds (i + 1 + a.size + b.size) kn))
  | .letp r a, i, kn => ⟨.letp r a, placesOf (r.parts ++ [a]) (i + 1), none⟩ :: (r.gds (i + 1) (r.knows (i + 1) kn) ++ a.gds (i + 1 + r.size) (r.knows (i + 1) kn))
  | .shut a, i, kn => [⟨.shut a, [], none⟩]
def Rows.gds : Rows → Nat → Known → List Gd
  | .nil, _, _ => []
  | .cons _ a r, i, kn => a.gds i kn ++ r.gds (i + a.size) kn
end
def Part.inKn : Part → Nat → Known → Known
  | .letp r _, i, kn => r.knows (i + 1) kn
  | _, _, kn => kn
def Part.nm : Part → Known → Option Nm
  | .name x, kn => kn x
  | _, _ => none
def kidsGds : List Part → Nat → Known → List Gd
  | [], _, _ => []
  | p :: ps, i, kn => p.gds i kn ++ kidsGds ps (i + p.size) kn
theorem kidsGds_app : ∀ (ps qs : List Part) (i : Nat) (kn : Known), kidsGds (ps ++ qs) i kn = kidsGds ps i kn ++ kidsGds qs (i + sz ps) kn
  | [], qs, i, kn => rfl
  | p :: ps, qs, i, kn => by
    show p.gds i kn ++ kidsGds (ps ++ qs) (i + p.size) kn = (p.gds i kn ++ kidsGds ps (i + p.size) kn) ++ kidsGds qs (i + (p.size + sz ps)) kn
    rw [kidsGds_app ps qs, List.append_assoc, Nat.add_assoc]
theorem Rows.gds_kids : ∀ (r : Rows) (i : Nat) (kn : Known), r.gds i kn = kidsGds r.parts i kn
  | .nil, i, kn => rfl
  | .cons x a r, i, kn => by
    show a.gds i kn ++ r.gds (i + a.size) kn = a.gds i kn ++ kidsGds r.parts (i + a.size) kn
    rw [Rows.gds_kids r]
theorem gds_eq (p : Part) (i : Nat) (kn : Known) : p.gds i kn = ⟨p, placesOf p.kids (i + 1), p.nm kn⟩ :: kidsGds p.kids (i + 1) (p.inKn i kn) := by
  cases p with
  | letp r a =>
    show _ :: (r.gds (i + 1) _ ++ a.gds (i + 1 + r.size) _) = _ :: kidsGds (r.parts ++ [a]) (i + 1) (r.knows (i + 1) kn)
    rw [kidsGds_app, Rows.gds_kids, Rows.sz]
    show _ = _ :: (_ ++ (a.gds _ _ ++ []))
    rw [List.append_nil]
    rfl
  | one k a =>
    show _ :: a.gds (i + 1) kn = _ :: (a.gds (i + 1) kn ++ [])
    rw [List.append_nil]
    rfl
  | two k a b =>
    show _ :: (a.gds (i + 1) kn ++ b.gds (i + 1 + a.size) kn) = _ :: (a.gds (i + 1) kn ++ (b.gds (i + 1 + a.size) kn ++ []))
    rw [List.append_nil]
    rfl
  | whn a b c =>
    show _ :: (a.gds (i + 1) kn ++ (b.gds (i + 1 + a.size) kn ++ c.gds (i + 1 + a.size + b.size) kn)) = _ :: (a.gds (i + 1) kn ++ (b.gds (i + 1 + a.size) kn ++ (c.gds (i + 1 + a.size + b.size) kn ++ [])))
    rw [List.append_nil]
    rfl
  | _ => rfl
theorem gds_len : ∀ (n : Nat) (p : Part) (i : Nat) (kn : Known), p.size ≤ n → (p.gds i kn).length = p.size := by
  intro n
  induction n with
  | zero => intro p i kn h; have := p.size_pos; omega
  | succ n ih =>
    intro p i kn h
    have h1 := p.sz_kids
    rw [gds_eq, List.length_cons, h1]
    have : ∀ (l : List Part) (i : Nat) (kn : Known), sz l ≤ n → (kidsGds l i kn).length = sz l := by
      intro l
      induction l with
      | nil => intro _ _ _; rfl
      | cons q l il =>
        intro i kn hl
        have hl' : q.size + sz l ≤ n := hl
        show (q.gds i kn ++ kidsGds l _ kn).length = q.size + sz l
        rw [List.length_append, ih q i kn (by omega), il _ kn (by omega)]
    rw [this _ _ _ (by omega)]
    omega
theorem Part.gds_len (p : Part) (i : Nat) (kn : Known) : (p.gds i kn).length = p.size := Lz.gds_len p.size p i kn (Nat.le_refl _)
theorem kidsGds_len : ∀ (l : List Part) (i : Nat) (kn : Known), (kidsGds l i kn).length = sz l
  | [], _, _ => rfl
  | q :: l, i, kn => by
    show (q.gds i kn ++ kidsGds l _ kn).length = q.size + sz l
    rw [List.length_append, Part.gds_len, kidsGds_len l]
/-- at v: what is told of a place; O: the objects that nobody changes -/
def GdAt (O : Addr → Prop) (H : Hp) (v : V) (g : Gd) : Prop := ∃ (a l : Addr) (u nv : V), v = .ref a ∧ H a = some (.tup [u, .ref l, nv]) ∧ Tp H u g.part.data ∧ O l ∧ H l = some (.lst ((g.inner.map fun (n : Nat) => (n : Int)).map V.int)) ∧ Tp H nv (nmData g.named)
abbrev GdsAt (O : Addr → Prop) (H : Hp) (vs : List V) (gs : List Gd) : Prop := Paired (GdAt O H) vs gs
theorem GdAt.mono {O O' : Addr → Prop} {H H' : Hp} {v : V} {g : Gd} (h : GdAt O H v g) (ho : ∀ b o, O b → H b = some o → H' b = some o) (k : Tk H H') (hO : ∀ b, O b → O' b) : GdAt O' H' v g := by
  obtain ⟨a, l, u, nv, rfl, e1, t1, ol, e2, t2⟩ := h
  exact ⟨a, l, u, nv, rfl, k _ _ e1, t1.mono k, hO _ ol, ho _ _ ol e2, t2.mono k⟩
theorem GdsAt.mono {O O' : Addr → Prop} {H H' : Hp} {vs : List V} {gs : List Gd} (h : GdsAt O H vs gs) (ho : ∀ b o, O b → H b = some o → H' b = some o) (k : Tk H H') (hO : ∀ b, O b → O' b) : GdsAt O' H' vs gs :=
  Paired.mapP h fun _ _ z => GdAt.mono z ho k hO
theorem GdsAt.same {O : Addr → Prop} {H H' : Hp} {vs : List V} {gs : List Gd} (h : GdsAt O H vs gs) (s : Same H H') : GdsAt O H' vs gs := h.mono (fun b o _ e => s b o e) (Same.tk s) fun _ z => z
theorem paired_append {α β : Type} {R : α → β → Prop} : ∀ {xs xs' : List α} {ys ys' : List β}, Paired R xs ys → Paired R xs' ys' → Paired R (xs ++ xs') (ys ++ ys')
  | _, _, _, _, .nil, h => h
  | _, _, _, _, .cons a b, h => .cons a (paired_append b h)
theorem paired_at {α β : Type} {R : α → β → Prop} : ∀ {xs : List α} {ys : List β} {i : Nat} {y : β}, Paired R xs ys → ys[i]? = some y → ∃ x, xs[i]? = some x ∧ R x y
  | _, _, i, y, .nil, h => by simp at h
  | _, _, 0, y, .cons a b, h => by cases h; exact ⟨_, rfl, a⟩
  | _, _, i + 1, y, .cons a b, h => paired_at (i := i) b h
theorem paired_get {α β : Type} {R : α → β → Prop} : ∀ {xs : List α} {ys : List β} {i : Nat} {x : α}, Paired R xs ys → xs[i]? = some x → ∃ y, ys[i]? = some y ∧ R x y
  | _, _, i, x, .nil, h => by simp at h
  | _, _, 0, x, .cons a b, h => by cases h; exact ⟨_, rfl, a⟩
  | _, _, i + 1, x, .cons a b, h => paired_get (i := i) b h
/-! the walks -/
def nInts (l : List Nat) : List V := (l.map fun (n : Nat) => (n : Int)).map V.int
theorem nInts_len (l : List Nat) : (nInts l).length = l.length := by unfold nInts; rw [List.length_map, List.length_map]
theorem nInts_at {l : List Nat} {i k : Nat} (h : l[i]? = some k) : (nInts l)[i]? = some (.int (k : Nat)) := by
  unfold nInts
  rw [List.getElem?_map, List.getElem?_map, h]
  rfl
theorem nInts_app (a b : List Nat) : nInts (a ++ b) = nInts a ++ nInts b := by unfold nInts; rw [List.map_append, List.map_append]
def spInner : Sp := fun vs H Q _ => ∃ (v : V) (p : Part) (i : Nat), vs = [v, .int (i : Nat)] ∧ Tp H v p.data ∧ p.good ∧ p.size ≤ 60 ∧ ∀ (l : Addr) (H' : Hp), H l = none → H' l = some (.lst (nInts (placesOf p.kids (i + 1)))) → Same H H' → Q (.ref l) H'
theorem sz_take_le (i : Nat) : ∀ a : List Part, sz (a.take i) ≤ sz a := by
  induction i with
  | zero => intro a; exact Nat.zero_le _
  | succ i ih =>
    intro a
    cases a with
    | nil => exact Nat.le_refl _
    | cons p a =>
      have := ih a
      show p.size + sz (a.take i) ≤ p.size + sz a
      omega
theorem sz_take_succ {ps : List Part} {k : Nat} {p : Part} (h : ps[k]? = some p) : sz (ps.take (k + 1)) = sz (ps.take k) + p.size := by
  rw [List.take_add_one, h, sz_app]
  show _ + (p.size + 0) = _
  omega
theorem placesOf_take {ps : List Part} {i k : Nat} {p : Part} (h : ps[k]? = some p) : placesOf (ps.take (k + 1)) i = placesOf (ps.take k) i ++ [i + sz (ps.take k)] := by
  rw [List.take_add_one, h, placesOf_app]
  rfl
theorem pure_innerplaces {K : PySem.W.Frag} {w : World} : PureOk 2 spInner (t_inner_places K w spKids spMany) 5 := by
  refine ⟨fun vs H Q E ⟨_, _, _, e, _⟩ => by rw [e]; rfl, ?_⟩
  rintro vs H Q E ⟨v, p, i, rfl, t, hg, hz, q⟩
  show t_inner_places K w _ _ _ [some v, some (.int (i : Nat)), none, none, none] H
  unfold t_inner_places
  walk_at "gg"
  rename_i f H1 nf ef s1
  walk_at "gg"
  refine g_seqL ?_
  walk_at "gg"
  refine ⟨v, p, rfl, t.mono (Same.tk s1), hg, hz, fun l us H2 nl el tu s2 => ?_⟩
  have hks := sz_len p.kids
  have hsk := p.sz_kids
  have hul : us.length = p.kids.length := by rw [tu.length, List.length_map]
  refine g_isL (.of el) ?_
  have nlf : l ≠ f := (ne_of_none ef nl).symm
  refine for_L (xs := us) (fun k σ H' => ∃ (x4 : Option V), σ = [some v, some (.int (i : Nat)), some (.ref f), some (.int ((i + 1 + sz (p.kids.take k) : Nat) : Int)), x4] ∧ H' f = some (.lst (nInts (placesOf (p.kids.take k) (i + 1)))) ∧ H' l = some (.lst us) ∧ Tk H2 H' ∧ Same H H')
    (fun k σ H' ⟨_, _, _, e, _⟩ => e) ⟨none, by simp [sz], s2 _ _ ef, el, .refl _, s1.trans s2⟩ ?_ ?_
  · rintro k x σ H3 hx ⟨x4, rfl, ef3, el3, k3, s3⟩
    obtain ⟨d, hd, tx⟩ := tu.get hx
    rw [List.getElem?_map] at hd
    obtain ⟨c, hc, rfl⟩ := Option.map_eq_some_iff.mp hd
    have hcm := List.mem_of_getElem? hc
    have hcs := sz_mem hcm
    walk_at "gg"
    have hpl : (placesOf (p.kids.take k) (i + 1)).length ≤ 60 := by
      rw [placesOf_len, List.length_take]
      omega
    refine g_append ef3 (by rw [nInts_len]; show _ < 16777216; omega) fun H4 e4 c4 => ?_
    walk_at "gg"
    have k4 : Tk H3 H4 := c4.tkl ef3
    refine ⟨x, c, rfl, (tx.mono k3).mono k4, hg.kids c hcm, by omega, fun H5 s5 => ?_⟩
    walk_at "gg"
    refine ⟨some x, ?_, ?_, s5 _ _ (c4 _ _ nlf el3), (k3.trans k4).trans (Same.tk s5), (Same.chg s3 nf c4).trans s5⟩
    · rw [sz_take_succ hc]
      have : ((i + 1 + sz (p.kids.take k) : Nat) : Int) + ((c.size : Nat) : Int) = ((i + 1 + (sz (p.kids.take k) + c.size) : Nat) : Int) := by omega
      rw [this]
    · rw [placesOf_take hc, nInts_app]
      exact s5 _ _ e4
  · rintro σ H3 ⟨x4, rfl, ef3, el3, k3, s3⟩
    rw [hul, List.take_length] at ef3
    walk_at "gg"
    exact q f H3 nf ef3 s3

/-! ### nodes: the grounds, walked -/
def knowsL : List (Str × Part) → Nat → Known → Known
  | [], _, kn => kn
  | q :: l, i, kn => knowsL l (i + q.2.size) (kput kn q.1 (.row i))
theorem knowsL_rows : ∀ (r : Rows) (i : Nat) (kn : Known), r.knows i kn = knowsL r.list i kn
  | .nil, i, kn => rfl
  | .cons x a r, i, kn => by
    show r.knows (i + a.size) _ = knowsL r.list (i + a.size) _
    rw [knowsL_rows r]
theorem knowsL_snoc : ∀ (l : List (Str × Part)) (q : Str × Part) (i : Nat) (kn : Known), knowsL (l ++ [q]) i kn = kput (knowsL l i kn) q.1 (.row (i + sz (l.map (·.2))))
  | [], q, i, kn => rfl
  | x :: l, q, i, kn => by
    show knowsL (l ++ [q]) (i + x.2.size) _ = kput (knowsL l (i + x.2.size) _) q.1 (.row (i + (x.2.size + sz (l.map (·.2)))))
    rw [knowsL_snoc l, Nat.add_assoc]
theorem nd_let {p : Part} (h : p.word = "let") : ∃ r a, p = .letp r a := by
  cases p with
  | letp r a => exact ⟨r, a, rfl⟩
  | two k a b => cases k <;> exact absurd h (by simp only [Part.word, K1.word, K2.word]; decide)
  | one k a => cases k <;> exact absurd h (by simp only [Part.word, K1.word, K2.word]; decide)
  | _ => exact absurd h (by simp only [Part.word, K1.word, K2.word]; decide)
theorem nd_name {p : Part} (h : p.word = "name") : ∃ x, p = .name x := by
  cases p with
  | name x => exact ⟨x, rfl⟩
  | two k a b => cases k <;> exact absurd h (by simp only [Part.word, K1.word, K2.word]; decide)
  | one k a => cases k <;> exact absurd h (by simp only [Part.word, K1.word, K2.word]; decide)
  | _ => exact absurd h (by simp only [Part.word, K1.word, K2.word]; decide)
def spWithRows : Sp := fun vs H Q _ => ∃ (v : V) (r : Rows) (a : Part) (i : Nat) (il d : Addr) (kn : Known) (n : Nat), vs = [v, .ref il, .ref d] ∧ Tp H v (Part.letp r a).data ∧ r.parts.length ≤ 60 ∧ H il = some (.lst (nInts (placesOf (r.parts ++ [a]) i))) ∧ KnowAt H d kn n ∧ n ≤ 500 ∧
  ∀ (d' : Addr) (H' : Hp), H d' = none → KnowAt H' d' (r.knows i kn) (n + r.names.length) → Same H H' → Q (.ref d') H'
theorem pure_withrows {K : PySem.W.Frag} {w : World} : PureOk 3 spWithRows (t_with_rows K w) 6 := by
  refine ⟨fun vs H Q E ⟨_, _, _, _, _, _, _, _, e, _⟩ => by rw [e]; rfl, ?_⟩
  rintro vs H Q E ⟨v, r, a, i, il, d, kn, n, rfl, t, hl, eil, hkn, hn, q⟩
  show t_with_rows K w _ [some v, some (.ref il), some (.ref d), none, none, none] H
  unfold t_with_rows
  obtain ⟨kvs, ed, hkl, hkf⟩ := hkn
  obtain ⟨pa, x1, x2, x3, rfl, epa, t1, t2, t3⟩ := t.three
  obtain ⟨ra, rs, rfl, era, tr⟩ := t2.tup_inv
  rw [Rows.list_datas] at tr
  walk_at "gg"
  rename_i f H1 nf ef s1
  have hrl : rs.length = r.list.length := by rw [tr.length, List.length_map]
  have hpl : r.parts.length = r.list.length := by rw [Rows.list_parts, List.length_map]
  have hnl : r.names.length = r.list.length := by rw [Rows.list_names, List.length_map]
  walk_at "gg"
  refine ⟨.tup, .lst, _, _, _, _, rfl, .of (s1 _ _ era), .of (s1 _ _ eil), ?_⟩
  refine for_M (xs := rs) (ys := nInts (placesOf (r.parts ++ [a]) i)) (fun k σ H' => ∃ (x4 x5 : Option V), σ = [some (.ref pa), some (.ref il), some (.ref d), some (.ref f), x4, x5] ∧ KnowAt H' f (knowsL (r.list.take k) i kn) (n + k) ∧ Same H H')
    (fun k σ H' ⟨_, _, _, _, s⟩ => ⟨.of (s _ _ era), .of (s _ _ eil)⟩) ⟨none, none, rfl, ⟨kvs, ef, hkl, fun x m hm => (hkf x m hm).imp fun v ⟨a, b⟩ => ⟨a, b.mono (Same.tk s1)⟩⟩, s1⟩ ?_ ?_
  · rintro k x y T σ H3 H4 hx hy ⟨x4, x5, rfl, k3, s3⟩ nT eT sT
    obtain ⟨dd, hdd, tx⟩ := tr.get hx
    rw [List.getElem?_map] at hdd
    obtain ⟨⟨nm, c⟩, hc, rfl⟩ := Option.map_eq_some_iff.mp hdd
    obtain ⟨ca, y1, y2, rfl, eca, tc1, tc2⟩ := (tx.mono (Same.tk (s3.trans sT))).two
    rw [tc1.str_inv] at eca
    have hcp : r.parts[k]? = some c := by rw [Rows.list_parts, List.getElem?_map, hc]; rfl
    have hklt := (List.getElem?_eq_some_iff.mp hcp).1
    have hcp2 : (r.parts ++ [a])[k]? = some c := by rw [List.getElem?_append_left hklt]; exact hcp
    have hy2 := nInts_at (placesOf_at (i := i) hcp2)
    rw [hy] at hy2
    cases hy2
    have k4 := k3.same sT
    refine g_un2 eT ?_
    walk_at "gg"
    rename_i b H5 nb eb s5
    walk_at "gg"
    refine g_setKn (k4.same s5) (by omega) (m := .row (i + sz ((r.parts ++ [a]).take k))) (.tup eb (.cons (.str _) (.one (.int _)))) fun H6 k6 c6 kk6 => ?_
    refine ⟨_, _, rfl, ?_, Same.chg ((s3.trans sT).trans s5) nf c6⟩
    have : r.list.take (k + 1) = r.list.take k ++ [(nm, c)] := by rw [List.take_add_one, hc]; rfl
    rw [this, knowsL_snoc]
    have e2 : ((r.list.take k).map (·.2)) = (r.parts ++ [a]).take k := by
      rw [List.take_append_of_le_length (by omega), Rows.list_parts, List.map_take]
    rw [e2]
    exact k6
  · rintro σ H3 ⟨x4, x5, rfl, k3, s3⟩
    have hmin : min rs.length (nInts (placesOf (r.parts ++ [a]) i)).length = r.list.length := by
      rw [nInts_len, placesOf_len, List.length_append, List.length_singleton, hrl, hpl]
      omega
    rw [hmin, List.take_length, ← knowsL_rows, ← hnl] at k3
    walk_at "gg"
    exact q f H3 nf k3 s3
def spGrounds (n : Nat) : Sp := fun vs H Q _ => ∃ (v : V) (p : Part) (i : Nat) (d : Addr) (kn : Known) (m : Nat) (fs sc : List Str), vs = [v, .int (i : Nat), .ref d] ∧ Tp H v p.data ∧ p.good ∧ p.size ≤ 60 ∧ (p.ok fs sc ∧ ∀ x ∈ sc, (kn x).isSome = true) ∧ KnowAt H d kn m ∧ m + 4 * p.deep ≤ 200 ∧ p.deep ≤ n ∧
  ∀ (l : Addr) (us : List V) (H' : Hp), H l = none → H' l = some (.lst us) → GdsAt (fun b => H b = none) H' us (p.gds i kn) → Same H H' → Q (.ref l) H'
def gr_tail (K : PySem.W.Frag) (w : World) (s_within : Sp) (s_grounds : Sp) : TS :=
  (tSeq (tAsg (tIf (tTest (tOp (rEqG K) (tIxG K w (tVar 0) (tC (.int 0))) (tC (.str "name")))) (tIxG K w (tVar 2) (tIxG K w (tVar 0) (tC (.int 1)))) (tC .non)) (gName 4))
  (tSeq (tAsg (tLstN (tCons (tTupN (tCons (tVar 0) (tCons (tVar 3) (tCons (tVar 4) tNil)))) tNil)) (gName 5))
  (tSeq (tFor (iZipM K (tCons (tCall s_within [] E0 (tCons (tVar 0) tNil)) (tCons (tVar 3) tNil))) (gTup K 2 (gCons (gName 6) (gCons (gName 7) gNil))) (tDrop (tBM K "list" rExtendG (tVar 5) (tCons (tCall s_grounds [] E0 (tCons (tVar 6) (tCons (tVar 7) (tCons (tVar 2) tNil)))) tNil))))
  (tRet (tVar 5)))))
/-- the names of a part's own let are known within it -/
theorem kids_ok {fs sc : List Str} {p : Part} {kn : Known} {i : Nat} (h : p.ok fs sc) (hk : ∀ x ∈ sc, (kn x).isSome = true) : ∃ sc', (∀ q ∈ p.kids, q.ok fs sc') ∧ ∀ x ∈ sc', (p.inKn i kn x).isSome = true := by
  cases p with
  | letp r a =>
    obtain ⟨_, _, _, h1, h2⟩ := h
    refine ⟨sc ++ r.names, fun q hq => ?_, fun x hx => ?_⟩
    · rcases List.mem_append.mp hq with hq | hq
      · exact Rows.ok_parts h1 q hq
      · rw [List.mem_singleton.mp hq]
        exact h2
    · rcases List.mem_append.mp hx with hx | hx
      · exact knows_old (r := r) (hk x hx)
      · exact knows_new (r := r) hx
  | num n => exact ⟨sc, by simp [Part.kids], hk⟩
  | name x => exact ⟨sc, by simp [Part.kids], hk⟩
  | fn f => exact ⟨sc, by simp [Part.kids], hk⟩
  | one k a => exact ⟨sc, fun q hq => by rw [List.mem_singleton.mp hq]; exact h, hk⟩
  | two k a b =>
    refine ⟨sc, fun q hq => ?_, hk⟩
    simp only [Part.kids, List.mem_cons, List.not_mem_nil, or_false] at hq
    rcases hq with rfl | rfl
    · exact h.1
    · exact h.2
  | whn a b c =>
    refine ⟨sc, fun q hq => ?_, hk⟩
    simp only [Part.kids, List.mem_cons, List.not_mem_nil, or_false] at hq
    rcases hq with rfl | rfl | rfl
    · exact h.1
    · exact h.2.1
    · exact h.2.2
  | shut a => exact h.elim
theorem kidsGds_take {ps : List Part} {i k : Nat} {kn : Known} {p : Part} (h : ps[k]? = some p) : kidsGds (ps.take (k + 1)) i kn = kidsGds (ps.take k) i kn ++ p.gds (i + sz (ps.take k)) kn := by
  rw [List.take_add_one, h, kidsGds_app]
  show _ ++ (p.gds _ kn ++ []) = _
  rw [List.append_nil]
section
variable {K : PySem.W.Frag} {w : World} {H0 H : Hp} {Q : VK} {v : V} {p : Part} {i m n : Nat} {d il : Addr} {kn : Known} {fs sc : List Str} {x4 x5 x6 x7 : Option V} {N : L2.St → Hp → Prop}
theorem gr_tail_ok (t : Tp H v p.data) (hg : p.good) (hz : p.size ≤ 60) (hok : p.ok fs sc) (hsc : ∀ x ∈ sc, (kn x).isSome = true) (eil : H il = some (.lst (nInts (placesOf p.kids (i + 1))))) (fil : H0 il = none) (s0 : Same H0 H)
    (hkn : KnowAt H d (p.inKn i kn) m) (hm : m + 4 * p.deep ≤ 204) (hd : p.deep ≤ n + 1)
    (q : ∀ (l : Addr) (us : List V) (H' : Hp), H0 l = none → H' l = some (.lst us) → GdsAt (fun b => H0 b = none) H' us (p.gds i kn) → Same H0 H' → Q (.ref l) H') :
    gr_tail K w spKids (spGrounds n) { nx := N, rt := Q } [some v, some (.int (i : Nat)), some (.ref d), some (.ref il), x4, x5, x6, x7] H := by
  unfold gr_tail
  obtain ⟨pa, xs, rfl, epa, txs⟩ := t.part
  have key : ∀ (nv : V), Tp H nv (nmData (p.nm kn)) → (tSeq (tAsg (tLstN (tCons (tTupN (tCons (tVar 0) (tCons (tVar 3) (tCons (tVar 4) tNil)))) tNil)) (gName 5))
      (tSeq (tFor (iZipM K (tCons (tCall spKids [] E0 (tCons (tVar 0) tNil)) (tCons (tVar 3) tNil))) (gTup K 2 (gCons (gName 6) (gCons (gName 7) gNil))) (tDrop (tBM K "list" rExtendG (tVar 5) (tCons (tCall (spGrounds n) [] E0 (tCons (tVar 6) (tCons (tVar 7) (tCons (tVar 2) tNil)))) tNil))))
      (tRet (tVar 5)))) { nx := N, rt := Q } [some (.ref pa), some (.int (i : Nat)), some (.ref d), some (.ref il), some nv, x5, x6, x7] H := by
    intro nv tnv
    walk_at "gg"
    rename_i ga H1 n1 e1 s1 f H2 nf ef s2
    have s12 := s1.trans s2
    have s02 := s0.trans s12
    walk_at "gg"
    refine ⟨_, p, rfl, t.mono (Same.tk s12), hg, hz, fun kl us H3 nk ek tk s3 => ?_⟩
    walk_at "gg"
    have fnf : H0 f = none := (s0.trans s1).free nf
    have s13 := s12.trans s3
    refine ⟨.lst, .lst, _, _, _, _, rfl, .of ek, .of (s13 _ _ eil), ?_⟩
    have hul : us.length = p.kids.length := by rw [tk.length, List.length_map]
    have hks := sz_len p.kids
    have hsk := p.sz_kids
    have hmk := p.mxd_kids
    obtain ⟨sc', hk1, hk2⟩ := kids_ok (i := i) hok hsc
    have nkf : kl ≠ f := (ne_of_none ef nk).symm
    have nif : il ≠ f := ne_of_none (s1 _ _ eil) nf
    have ndf : d ≠ f := by
      obtain ⟨kvs, e, _⟩ := hkn
      exact ne_of_none (s1 _ _ e) nf
    refine for_M (xs := us) (ys := nInts (placesOf p.kids (i + 1))) (fun k σ H' => ∃ (x6 x7 : Option V) (gs : List V), σ = [some (.ref pa), some (.int (i : Nat)), some (.ref d), some (.ref il), some nv, some (.ref f), x6, x7] ∧ H' f = some (.lst gs) ∧
        GdsAt (fun b => H0 b = none ∧ b ≠ f) H' gs (⟨p, placesOf p.kids (i + 1), p.nm kn⟩ :: kidsGds (p.kids.take k) (i + 1) (p.inKn i kn)) ∧ H' kl = some (.lst us) ∧ H' il = some (.lst (nInts (placesOf p.kids (i + 1)))) ∧ Same H0 H' ∧ Tk H3 H' ∧ KnowAt H' d (p.inKn i kn) m)
      (fun k σ H' ⟨_, _, _, _, _, _, e1, e2, _⟩ => ⟨.of e1, .of e2⟩)
      ⟨_, _, _, rfl, s3 _ _ ef, .cons ⟨ga, il, .ref pa, nv, rfl, s3 _ _ (s2 _ _ e1), t.mono (Same.tk s13), ⟨fil, nif⟩, s13 _ _ eil, tnv.mono (Same.tk s13)⟩ .nil, ek, s13 _ _ eil, s02.trans s3, .refl _, hkn.same s13⟩ ?_ ?_
    · rintro k x y T σ H4 H5 hx hy ⟨x6, x7, gs, rfl, ef4, hgs4, ek4, ei4, s4, k4, hk4⟩ nT eT sT
      obtain ⟨dd, hdd, tx⟩ := tk.get hx
      rw [List.getElem?_map] at hdd
      obtain ⟨c, hc, rfl⟩ := Option.map_eq_some_iff.mp hdd
      have hcm := List.mem_of_getElem? hc
      have hcs := sz_mem hcm
      have hcd := mxd_mem hcm
      have hy2 := nInts_at (placesOf_at (i := i + 1) hc)
      rw [hy] at hy2
      cases hy2
      refine g_un2 eT ?_
      walk_at "gg"
      refine ⟨x, c, i + 1 + sz (p.kids.take k), d, p.inKn i kn, m, fs, sc', rfl, (tx.mono k4).mono (Same.tk sT), hg.kids c hcm, by omega, ⟨hk1 c hcm, hk2⟩, hk4.same sT, by omega, by omega, fun l us6 H6 nl el hg6 s6 => ?_⟩
      have ef6 := s6 _ _ (sT _ _ ef4)
      have gl6 : us6.length ≤ 60 := by rw [Paired.length hg6, Part.gds_len]; omega
      have gl4 : gs.length ≤ 61 := by
        have h1 := sz_take_le k p.kids
        rw [Paired.length hgs4, List.length_cons, kidsGds_len]
        omega
      walk_at "gg"
      refine g_extend ef6 el (by show _ ≤ 16777216; omega) fun H7 e7 c7 => ?_
      have s46 := sT.trans s6
      have k47 : Tk H4 H7 := (Same.tk s46).trans (c7.tkl ef6)
      have k67 : Tk H6 H7 := c7.tkl ef6
      refine ⟨_, _, _, rfl, e7, ?_, c7 _ _ nkf (s46 _ _ ek4), c7 _ _ nif (s46 _ _ ei4), Same.chg (s4.trans s46) fnf c7, k4.trans k47, (hk4.same s46).mono (fun kvs e => c7 _ _ ndf e) k67 (Nat.le_refl _)⟩
      rw [kidsGds_take hc]
      refine paired_append (xs := gs) (ys := _ :: kidsGds (p.kids.take k) (i + 1) (p.inKn i kn)) ?_ ?_
      · exact hgs4.mono (fun b o ob e => c7 b o ob.2 (s46 b o e)) k47 fun _ z => z
      · refine hg6.mono (fun b o ob e => c7 b o (fun z => ?_) e) k67 fun b ob => ⟨s4.free (sT.free ob), fun z => ?_⟩
        · rw [z, (sT _ _ ef4)] at ob
          cases ob
        · rw [z, (sT _ _ ef4)] at ob
          cases ob
    · rintro σ H4 ⟨x6, x7, gs, rfl, ef4, hgs4, ek4, ei4, s4, k4, hk4⟩
      have hmin : min us.length (nInts (placesOf p.kids (i + 1))).length = p.kids.length := by
        rw [nInts_len, placesOf_len, hul]
        omega
      rw [hmin, List.take_length, ← gds_eq] at hgs4
      walk_at "gg"
      exact q f gs H4 fnf ef4 (hgs4.mono (fun _ _ _ e => e) (.refl _) fun _ z => z.1) s4
  walk_at "gg"
  by_cases hw : p.word = "name"
  · obtain ⟨x, rfl⟩ := nd_name hw
    obtain ⟨y, ys, rfl, ty, ty2⟩ := txs.cons_inv
    rw [ty.str_inv, ty2.nil_inv] at epa
    refine g_T (decide_eq_true hw) ?_
    walk_at "gg"
    have hx : (kn x).isSome = true := hsc x hok.1
    obtain ⟨mm, hmm⟩ := Option.isSome_iff_exists.mp hx
    obtain ⟨kvs, e, l, f⟩ := hkn
    obtain ⟨nv, h1, h2⟩ := f x mm hmm
    refine g_ixD e (k := .inr x) rfl h1 (g_name rfl ?_)
    refine key nv ?_
    show Tp H nv (nmData (kn x))
    rw [hmm]
    exact h2
  · refine g_F (decide_eq_false hw) ?_
    refine g_c (g_name rfl ?_)
    refine key .non ?_
    have : p.nm kn = none := by
      cases p with
      | name x => exact absurd rfl hw
      | _ => rfl
    rw [this]
    exact .non
theorem pure_grounds : PureOk 3 (spGrounds (n + 1)) (t_grounds K w spInner spWithRows spKids (spGrounds n)) 8 := by
  refine ⟨fun vs H Q E ⟨_, _, _, _, _, _, _, _, e, _⟩ => by rw [e]; rfl, ?_⟩
  rintro vs H Q E ⟨v, p, i, d, kn, m, fs, sc, rfl, t, hg, hz, ⟨hok, hsc⟩, hkn, hm, hd, q⟩
  show t_grounds K w _ _ _ _ _ [some v, some (.int (i : Nat)), some (.ref d), none, none, none, none, none] H
  unfold t_grounds
  obtain ⟨pa, xs, rfl, epa, txs⟩ := t.part
  walk_at "gg"
  refine ⟨_, p, i, rfl, t, hg, hz, fun il H1 nil' eil s1 => ?_⟩
  have epa1 := s1 _ _ epa
  walk_at "gg"
  by_cases hw : p.word = "let"
  · obtain ⟨r, a, rfl⟩ := nd_let hw
    refine g_T (decide_eq_true hw) ?_
    walk_at "gg"
    obtain ⟨h4, _⟩ := id hok
    have hpz : r.parts.length ≤ 60 := by
      have h1 := r.sz
      have h2 := sz_len r.parts
      have h3 : 1 + (r.size + a.size) ≤ 60 := hz
      omega
    have hdd : 1 + max r.deep a.deep = (Part.letp r a).deep := rfl
    refine ⟨_, r, a, i + 1, il, d, kn, m, rfl, t.mono (Same.tk s1), hpz, eil, hkn.same s1, by omega, fun d' H2 nd' hk2 s2 => ?_⟩
    refine g_name rfl ?_
    exact gr_tail_ok (H0 := H) (t.mono (Same.tk (s1.trans s2))) hg hz hok hsc (s2 _ _ eil) nil' (s1.trans s2) (m := m + 4) (hk2.mono (fun _ e => e) (.refl _) (by omega)) (by omega) hd q
  · refine g_F (decide_eq_false hw) (g_next ?_)
    have : p.inKn i kn = kn := by
      cases p with
      | letp r a => exact absurd rfl hw
      | _ => rfl
    exact gr_tail_ok (H0 := H) (t.mono (Same.tk s1)) hg hz hok hsc eil nil' s1 (m := m) (by rw [this]; exact hkn.same s1) (by omega) hd q
end

/-! ### nodes: the grounds of a program -/
def thKn : List Str → Nat → Known → Known
  | [], _, kn => kn
  | x :: r, k, kn => thKn r (k + 1) (kput kn x (.thing k))
theorem thKn_snoc : ∀ (l : List Str) (x : Str) (k : Nat) (kn : Known), thKn (l ++ [x]) k kn = kput (thKn l k kn) x (.thing (k + l.length))
  | [], x, k, kn => rfl
  | y :: l, x, k, kn => by
    show thKn (l ++ [x]) (k + 1) _ = kput (thKn l (k + 1) _) x (.thing (k + (l.length + 1)))
    rw [thKn_snoc l, show k + 1 + l.length = k + (l.length + 1) from by omega]
theorem thKn_old : ∀ {l : List Str} {k : Nat} {kn : Known} {x : Str}, (kn x).isSome = true → (thKn l k kn x).isSome = true
  | [], k, kn, x, h => h
  | y :: l, k, kn, x, h => by
    refine thKn_old (l := l) ?_
    unfold kput
    split
    · rfl
    · exact h
theorem thKn_new : ∀ {l : List Str} {k : Nat} {kn : Known} {x : Str}, x ∈ l → (thKn l k kn x).isSome = true
  | y :: l, k, kn, x, h => by
    rcases List.mem_cons.mp h with rfl | h2
    · refine thKn_old (l := l) ?_
      unfold kput
      rw [if_pos rfl]
      rfl
    · exact thKn_new (l := l) h2
abbrev noKn : Known := fun _ => none
/-- things and bodies -/
def Prog.rowsG (P : Prog) : List (List Str × Part) := P.fs.map (fun f => (f.things, f.body)) ++ [([], P.asked)]
def rgD (q : List Str × Part) : PyData := .tuple [.tuple (q.1.map .str), q.2.data]
def bodyGds : List (List Str × Part) → Nat → List Gd
  | [], _ => []
  | q :: r, i => q.2.gds i (thKn q.1 0 noKn) ++ bodyGds r (i + q.2.size)
def Prog.gds (P : Prog) : List Gd := bodyGds P.rowsG 0
theorem bodyGds_app : ∀ (l m : List (List Str × Part)) (i : Nat), bodyGds (l ++ m) i = bodyGds l i ++ bodyGds m (i + sz (l.map (·.2)))
  | [], m, i => rfl
  | q :: l, m, i => by
    show q.2.gds i _ ++ bodyGds (l ++ m) _ = (q.2.gds i _ ++ bodyGds l _) ++ bodyGds m (i + (q.2.size + sz (l.map (·.2))))
    rw [bodyGds_app l m, List.append_assoc, Nat.add_assoc]
theorem bodyGds_len : ∀ (l : List (List Str × Part)) (i : Nat), (bodyGds l i).length = sz (l.map (·.2))
  | [], i => rfl
  | q :: l, i => by
    show (q.2.gds i _ ++ bodyGds l _).length = q.2.size + sz (l.map (·.2))
    rw [List.length_append, Part.gds_len, bodyGds_len l]
theorem bodyGds_take {l : List (List Str × Part)} {i k : Nat} {q : List Str × Part} (h : l[k]? = some q) : bodyGds (l.take (k + 1)) i = bodyGds (l.take k) i ++ q.2.gds (i + sz ((l.take k).map (·.2))) (thKn q.1 0 noKn) := by
  rw [List.take_add_one, h, bodyGds_app]
  show _ ++ (q.2.gds _ _ ++ []) = _
  rw [List.append_nil]
theorem rowsG_bodies (P : Prog) : P.rowsG.map (·.2) = P.bodies := by
  unfold Prog.rowsG Prog.bodies
  rw [List.map_append, List.map_map]
  rfl
theorem rowsG_fine {P : Prog} (hF : P.fine) : ∀ q ∈ P.rowsG, q.2.fine P.names q.1 ∧ q.1.length ≤ 4 := by
  intro q hq
  rcases List.mem_append.mp hq with h | h
  · obtain ⟨f, hf, rfl⟩ := List.mem_map.mp h
    exact ⟨(hF.fs f hf).body, (hF.fs f hf).few⟩
  · rw [List.mem_singleton.mp h]
    exact ⟨hF.asked, Nat.zero_le _⟩
theorem sz_map_take {l : List (List Str × Part)} (k : Nat) : sz ((l.take k).map (·.2)) ≤ sz (l.map (·.2)) := by
  rw [List.map_take]
  exact sz_take_le k _
theorem strs_inv {H : Hp} : ∀ {ss : List Str} {vs : List V}, Tps H vs (ss.map PyData.str) → vs = ss.map V.str
  | [], vs, h => h.nil_inv
  | s :: ss, vs, h => by
    obtain ⟨v, us, rfl, hv, hu⟩ := Tps.cons_inv (ds := ss.map PyData.str) h
    rw [hv.str_inv, strs_inv hu]
    rfl
/-- the names of things, each with its number -/
theorem for_things {K : PySem.W.Frag} {D : Ends} {σ0 : L2.St} {H : Hp} {nt d : Addr} {ts : List Str} {Sg : Option V → Option V → L2.St} {g : TG} {tb : TS} (hl : ts.length ≤ 60) (en : H nt = some (.tup (ts.map V.str))) (ed : H d = some (.dK [])) (x4 x6 : Option V) (h0 : σ0 = Sg x4 x6)
    (hs : ∀ (i : Nat) (x : Str) (y4 y6 : Option V) (T : Addr) (H1 : Hp) (N : L2.St → Hp → Prop), ts[i]? = some x → H1 T = some (.tup [.int (i : Nat), .str x]) → KnowAt H1 d (thKn (ts.take i) 0 noKn) i → (∀ H2 z4 z6, KnowAt H2 d (thKn (ts.take (i + 1)) 0 noKn) (i + 1) → Chg d H1 H2 → N (Sg z4 z6) H2) → g (.ref T) (Sg y4 y6) H1 fun σ2 H2 => tb { D with nx := N, ct := N, bk := D.nx } σ2 H2)
    (hd : ∀ y4 y6 H', KnowAt H' d (thKn ts 0 noKn) ts.length → Chg d H H' → D.nx (Sg y4 y6) H') : ForW (Itet K nt) g tb D σ0 H := by
  subst h0
  refine for_any ts.length (fun i σ H' => ∃ (y4 y6 : Option V), σ = Sg y4 y6 ∧ KnowAt H' d (thKn (ts.take i) 0 noKn) i ∧ H' nt = some (.tup (ts.map V.str)) ∧ Chg d H H')
    ⟨x4, x6, rfl, by rw [List.take_zero]; exact KnowAt.empty ed, en, .refl⟩
    (fun i σ H' hi ⟨_, _, _, _, e, _⟩ => ⟨_, _, .of e, List.getElem?_eq_getElem (by rw [List.length_map]; exact hi)⟩) (fun σ H' ⟨_, _, _, _, e, _⟩ => ⟨_, .of e, List.length_map _⟩) ?_ ?_
  · rintro i x σ H4 H5 hi ⟨y4, y6, rfl, k4, e4, c4⟩ ⟨T, y, rfl, nT, rfl, hy⟩
    have hy' := hy _ (.of e4)
    rw [List.getElem?_map] at hy'
    obtain ⟨nm, hnm, rfl⟩ := Option.map_eq_some_iff.mp hy'
    have eT : upd H4 T (.tup [.int (i : Nat), .str nm]) T = some (.tup [.int (i : Nat), .str nm]) := upd_same
    have sT : Same H4 (upd H4 T (.tup [.int (i : Nat), .str nm])) := same_upd nT
    generalize upd H4 T (.tup [.int (i : Nat), .str nm]) = H6 at eT sT
    refine hs i nm y4 y6 T H6 _ hnm eT (k4.same sT) fun H2 z4 z6 k2 c2 => ⟨z4, z6, rfl, k2, ?_, c4.trans (Chg.trans (.same sT) c2)⟩
    have nd : nt ≠ d := fun z => by
      obtain ⟨kvs, e, _⟩ := k4
      rw [z, e] at e4
      cases e4
    exact c2 _ _ nd (sT _ _ e4)
  · rintro σ H4 ⟨y4, y6, rfl, k4, e4, c4⟩
    rw [List.take_length] at k4
    exact hd y4 y6 H4 k4 c4
theorem ldef_thKn {ts : List Str} {i : Nat} {x : Str} (h : ts[i]? = some x) : thKn (ts.take (i + 1)) 0 noKn = kput (thKn (ts.take i) 0 noKn) x (.thing i) := by
  rw [List.take_add_one, h]
  show thKn (_ ++ [x]) 0 noKn = _
  have hi := (List.getElem?_eq_some_iff.mp h).1
  rw [thKn_snoc, Nat.zero_add, List.length_take, Nat.min_eq_left (by omega)]
def spGroundOf : Sp := fun vs H Q _ => ∃ (v : V) (P : Prog), vs = [v] ∧ Tp H v P.data ∧ P.fine ∧ ∀ (l : Addr) (us : List V) (H' : Hp), H l = none → H' l = some (.lst us) → GdsAt (fun b => H b = none) H' us P.gds → Same H H' → Q (.ref l) H'
theorem pure_groundof {K : PySem.W.Frag} {w : World} : PureOk 1 spGroundOf (t_ground_of K w (spGrounds 12)) 7 := by
  refine ⟨fun vs H Q E ⟨_, _, e, _⟩ => by rw [e]; rfl, ?_⟩
  rintro vs H Q E ⟨v, P, rfl, tP, hF, q⟩
  show t_ground_of K w _ _ [some v, none, none, none, none, none, none] H
  unfold t_ground_of
  obtain ⟨pa, fa, u, vs, rfl, epa, efa, tfs, tas⟩ := tP.prog
  have hvl : vs.length = P.fs.length := by rw [tfs.length, List.length_map]
  have hfew := hF.few
  walk_at "gg"
  rename_i f H1 nf ef s1
  walk_at "gg"
  refine g_seqL ?_
  walk_at "gg"
  refine g_seqT ?_
  walk_at "gg"
  refine lc_mapT (s1 _ _ efa) (by omega) (fun i y H' => ∃ fn, P.fs[i]? = some fn ∧ Tp H' y (rgD (fn.things, fn.body))) (fun i y H H' k ⟨fn, h1, h2⟩ => ⟨fn, h1, h2.mono k⟩) ?_ ?_
  · intro i x H' Nx hx s hN
    obtain ⟨fd, hfd, td⟩ := tfs.get hx
    rw [List.getElem?_map] at hfd
    obtain ⟨fn, hf, rfl⟩ := Option.map_eq_some_iff.mp hfd
    obtain ⟨a3, b3, u3, rfl, ea3, eb3, tu3⟩ := (td.mono (Same.tk (s1.trans s))).fn1
    refine g_un3 ea3 ?_
    refine ⟨rfl, ?_⟩
    walk_at "gg"
    rename_i a4 H4 n4 e4 s4
    refine hN _ _ s4 ⟨fn, hf, .tup e4 (.cons (.tup (s4 _ _ eb3) (Tps.strs _)) (.one (tu3.mono (Same.tk s4))))⟩
  intro D ys H2 nD eD hyl hyF s2
  walk_at "gg"
  rename_i t0 H3 n3 e3 s3 t1 H4 n4 e4 s4 l5 H5 n5 e5 s5 rl H6 nr er s6
  have s25 := s3.trans (s4.trans s5)
  have s26 := s25.trans s6
  have s16 := s2.trans s26
  have s06 := s1.trans s16
  have tr : Tps H6 (ys ++ [.ref t1]) (P.rowsG.map rgD) := by
    unfold Prog.rowsG
    rw [List.map_append, List.map_map]
    refine Tps.append (Tps.of_get (by rw [hyl, hvl, List.length_map]) fun i y hy => ?_) (.one ?_)
    · obtain ⟨fn, h1, h2⟩ := hyF i y hy
      exact ⟨rgD (fn.things, fn.body), by rw [List.getElem?_map, h1]; rfl, h2.mono (Same.tk s26)⟩
    · exact .tup (s6 _ _ (s5 _ _ e4)) (.cons (.tup (s6 _ _ (s5 _ _ (s4 _ _ e3))) .nil) (.one (tas.mono (Same.tk s06))))
  have hrl : (ys ++ [V.ref t1]).length = P.rowsG.length := by rw [tr.length, List.length_map]
  have ef6 := s16 _ _ ef
  have nrf : rl ≠ f := by
    intro z
    have : H5 rl = none := nr
    rw [z, s5 _ _ (s4 _ _ (s3 _ _ (s2 _ _ ef)))] at this
    cases this
  have htot := hF.total
  rw [← rowsG_bodies] at htot
  have fnf : H f = none := nf
  clear eD hyF e3 e4 e5 n3 n4 n5 s3 s4 s5 s25 s26 nD nr s6 s2
  refine for_L (xs := ys ++ [.ref t1]) (fun k σ H' => ∃ (x2 x3 x4 x5 x6 : Option V) (gs : List V), σ = [some (.ref pa), some (.ref f), x2, x3, x4, x5, x6] ∧ H' f = some (.lst gs) ∧ GdsAt (fun b => H b = none ∧ b ≠ f) H' gs (bodyGds (P.rowsG.take k) 0) ∧ H' rl = some (.lst (ys ++ [.ref t1])) ∧ Same H H' ∧ Tk H6 H')
    (fun k σ H' ⟨_, _, _, _, _, _, _, _, _, e, _⟩ => e) ⟨_, _, _, _, _, [], rfl, ef6, .nil, er, s06, .refl _⟩ ?_ ?_
  · rintro k x σ H7 hx ⟨x2, x3, x4, x5, x6, gs, rfl, ef7, hgs, er7, s7, k7⟩
    obtain ⟨dd, hdd, tx⟩ := (tr.mono k7).get hx
    rw [List.getElem?_map] at hdd
    obtain ⟨⟨ts, p⟩, hq, rfl⟩ := Option.map_eq_some_iff.mp hdd
    obtain ⟨hfine, hts⟩ := rowsG_fine hF _ (List.mem_of_getElem? hq)
    obtain ⟨qa, y1, y2, rfl, eqa, tq1, tq2⟩ := tx.two
    obtain ⟨na, ns, rfl, ena, tns⟩ := tq1.tup_inv
    rw [strs_inv tns] at ena
    have hglen : gs.length = sz ((P.rowsG.take k).map (·.2)) := by rw [Paired.length hgs, bodyGds_len]
    have hgle := sz_map_take (l := P.rowsG) k
    refine g_un2 eqa ?_
    walk_at "gg"
    rename_i d H8 nd ed s8
    have ndf : d ≠ f := (ne_of_none ef7 nd).symm
    have ndr : d ≠ rl := (ne_of_none er7 nd).symm
    walk_at "gg"
    refine g_enumT ?_
    walk_at "gg"
    refine ⟨na, _, rfl, .of (s8 _ _ ena), ?_⟩
    refine for_things (Sg := fun a b => [some (.ref pa), some (.ref f), some (.ref na), some y2, a, some (.ref d), b]) (by omega) (s8 _ _ ena) ed x4 x6 rfl ?_ ?_
    · intro i x y4 y6 T H9 N hx9 eT k9 hN
      refine g_un2 eT ?_
      walk_at "gg"
      rename_i b H10 nb eb s10
      walk_at "gg"
      have hi9 := (List.getElem?_eq_some_iff.mp hx9).1
      refine g_setKn (k9.same s10) (by omega) (m := .thing i) (.tup eb (.cons (.str _) (.one (.int _)))) fun H11 k11 c11 kk11 => ?_
      refine hN H11 _ _ ?_ (Chg.trans (.same s10) c11)
      rw [ldef_thKn hx9]
      exact k11
    · intro y4 y6 H9 k9 c9
      have c79 : Chg d H7 H9 := Chg.trans (.same s8) c9
      have hd7 : H7 d = none := nd
      have k79 : Tk H7 H9 := fun b xs e => c79 b _ (ne_of_none e hd7) e
      have s79 : Same H7 H9 := fun b o e => c79 b o (ne_of_none e hd7) e
      have ef9 := s79 _ _ ef7
      walk_at "gg"
      have hpz : p.size ≤ 60 := hfine.size
      have hpd : p.deep ≤ 12 := hfine.deep
      have hts4 : ts.length ≤ 4 := hts
      refine ⟨y2, p, gs.length, d, thKn ts 0 noKn, ts.length, P.names, ts, rfl, tq2.mono k79, hfine.good, hpz, ⟨hfine.ok, fun x hx => thKn_new hx⟩, k9, by omega, hpd, fun l us H10 nl el hg10 s10 => ?_⟩
      walk_at "gg"
      have ef10 := s10 _ _ ef9
      have hul : us.length ≤ 60 := by rw [Paired.length hg10, Part.gds_len]; exact hpz
      refine g_extend ef10 el (by show _ ≤ 16777216; omega) fun H11 e11 c11 => ?_
      walk_at "gg"
      have s710 := s79.trans s10
      have k711 : Tk H7 H11 := (Same.tk s710).trans (c11.tkl ef10)
      refine ⟨_, _, _, _, _, _, rfl, e11, ?_, c11 _ _ nrf (s710 _ _ er7), Same.chg (s7.trans s710) fnf c11, k7.trans k711⟩
      rw [bodyGds_take hq, Nat.zero_add, ← hglen]
      refine paired_append ?_ ?_
      · exact hgs.mono (fun b o ob e => c11 b o ob.2 (s710 b o e)) k711 fun _ z => z
      · refine hg10.mono (fun b o ob e => c11 b o (fun z => ?_) e) (c11.tkl ef10) fun b ob => ⟨s7.free (s79.free ob), fun z => ?_⟩
        · rw [z, ef9] at ob
          cases ob
        · rw [z, ef9] at ob
          cases ob
  · rintro σ H7 ⟨x2, x3, x4, x5, x6, gs, rfl, ef7, hgs, er7, s7, k7⟩
    rw [hrl, List.take_length] at hgs
    walk_at "gg"
    exact q f gs H7 fnf ef7 (hgs.mono (fun _ _ _ e => e) (.refl _) fun _ z => z.1) s7

/-! ### nodes: the table -/
structure NodesK (K : PySem.W.Frag) : Prop where
  c : Cls K (He.ga K "Nodes")
  program : NoAttr K (He.ga K "Nodes") "program"
  ground : NoAttr K (He.ga K "Nodes") "ground"
  kept : NoAttr K (He.ga K "Nodes") "kept"
  numbers : NoAttr K (He.ga K "Nodes") "numbers"
  closed : NoAttr K (He.ga K "Nodes") "closed"
  doors : NoAttr K (He.ga K "Nodes") "doors"
def rowIx : List NRow → NRow → Option Nat
  | [], _ => none
  | q :: l, r => if q = r then some 0 else (rowIx l r).map (· + 1)
theorem rowIx_at : ∀ {l : List NRow} {r : NRow} {i : Nat}, rowIx l r = some i → l[i]? = some r
  | q :: l, r, i, h => by
    unfold rowIx at h
    by_cases e : q = r
    · rw [if_pos e] at h
      cases h
      rw [e]
      rfl
    · rw [if_neg e] at h
      obtain ⟨j, hj, rfl⟩ := Option.map_eq_some_iff.mp h
      exact rowIx_at (l := l) hj
theorem rowIx_none : ∀ {l : List NRow} {r : NRow}, rowIx l r = none ↔ r ∉ l
  | [], r => by simp [rowIx]
  | q :: l, r => by
    unfold rowIx
    by_cases e : q = r
    · rw [if_pos e, e]
      simp
    · rw [if_neg e, Option.map_eq_none_iff, rowIx_none (l := l)]
      have : r ≠ q := fun z => e z.symm
      simp [this]
theorem rowIx_new {l : List NRow} {r : NRow} (h : r ∉ l) : rowIx (l ++ [r]) r = some l.length := by
  induction l with
  | nil =>
    show rowIx [r] r = some 0
    unfold rowIx
    rw [if_pos rfl]
  | cons q l ih =>
    show rowIx (q :: (l ++ [r])) r = some (l.length + 1)
    unfold rowIx
    rw [if_neg (fun e => h (by rw [e]; simp)), ih (fun z => h (List.mem_cons_of_mem _ z))]
    rfl
def ents : List Addr → List NRow → Nat → List NEnt
  | a :: as, r :: rs, i => (r, a, .int (i : Nat)) :: ents as rs (i + 1)
  | _, _, _ => []
theorem ents_len : ∀ {as : List Addr} {rows : List NRow} {i : Nat}, as.length = rows.length → (ents as rows i).length = rows.length
  | [], [], _, _ => rfl
  | a :: as, r :: rs, i, h => congrArg (· + 1) (ents_len (as := as) (rows := rs) (Nat.succ.inj h))
theorem ents_snoc : ∀ {as : List Addr} {rows : List NRow} {i : Nat} {a : Addr} {r : NRow}, as.length = rows.length → ents (as ++ [a]) (rows ++ [r]) i = ents as rows i ++ [(r, a, .int ((i + rows.length : Nat) : Int))]
  | [], [], i, a, r, _ => rfl
  | b :: as, q :: rs, i, a, r, h => by
    show (q, b, _) :: ents (as ++ [a]) (rs ++ [r]) (i + 1) = (q, b, _) :: (ents as rs (i + 1) ++ [(r, a, .int ((i + (rs.length + 1) : Nat) : Int))])
    rw [ents_snoc (Nat.succ.inj h), show i + 1 + rs.length = i + (rs.length + 1) from by omega]
theorem valN_ents : ∀ {as : List Addr} {rows : List NRow} {i : Nat} {r : NRow}, as.length = rows.length → valN (ents as rows i) r = (rowIx rows r).map fun j => .int ((i + j : Nat) : Int)
  | [], [], i, r, _ => rfl
  | a :: as, q :: rs, i, r, h => by
    show valN ((q, a, V.int (i : Nat)) :: ents as rs (i + 1)) r = _
    unfold rowIx
    by_cases e : q = r
    · rw [if_pos e, valN_pos e]
      rfl
    · rw [if_neg e, valN_neg e, valN_ents (Nat.succ.inj h), Option.map_map]
      congr 1
      funext j
      show V.int ((i + 1 + j : Nat) : Int) = V.int ((i + (j + 1) : Nat) : Int)
      rw [show i + 1 + j = i + (j + 1) from by omega]
theorem RowAt.mono {H H' : Hp} (k : Tk H H') {a : Addr} {r : NRow} (h : RowAt H a r) : RowAt H' a r := by
  obtain ⟨t, e1, e2⟩ := h
  exact ⟨t, k _ _ e1, k _ _ e2⟩
theorem rowsAt_mono {H H' : Hp} (k : Tk H H') {as : List Addr} {rows : List NRow} (h : Paired (RowAt H) as rows) : Paired (RowAt H') as rows := Paired.mapP h fun _ _ z => z.mono k
/-- a function's body's place, how many things it wants -/
def Prog.door (P : Prog) (f : Str) : Nat × Nat := (sz (P.bodies.take (P.names.idxOf f)), ((P.rowsG[P.names.idxOf f]?).map fun q => q.1.length).getD 0)
theorem names_len (P : Prog) : P.names.length = P.fs.length := List.length_map _
theorem idx_num {P : Prog} (f : Str) : NumAt P f (P.names.idxOf f) := by
  by_cases h : f ∈ P.names
  · have h1 := List.idxOf_lt_length_of_mem h
    exact .inl (by rw [List.getElem?_eq_getElem h1, List.getElem_idxOf h1])
  · exact .inr ⟨h, List.idxOf_eq_length h⟩
theorem door_things {P : Prog} (hF : P.fine) (f : Str) : ∃ ts, ThingsAt P f ts ∧ (P.door f).2 = ts.length := by
  by_cases h : f ∈ P.names
  · have h1 := List.idxOf_lt_length_of_mem h
    have h2 : P.names.idxOf f < P.fs.length := by rw [← names_len]; exact h1
    obtain ⟨fn, hfn⟩ : ∃ fn, P.fs[P.names.idxOf f]? = some fn := ⟨_, List.getElem?_eq_getElem h2⟩
    have h3 : P.names[P.names.idxOf f]? = some f := by rw [List.getElem?_eq_getElem h1, List.getElem_idxOf h1]
    have h4 : P.names[P.names.idxOf f]? = some fn.name := by
      show (P.fs.map (·.name))[_]? = _
      rw [List.getElem?_map, hfn]
      rfl
    rw [h3] at h4
    refine ⟨fn.things, .inl ⟨_, fn, hfn, (Option.some.inj h4).symm, rfl⟩, ?_⟩
    unfold Prog.door Prog.rowsG
    dsimp only
    rw [List.getElem?_append_left (by rw [List.length_map]; exact h2), List.getElem?_map, hfn]
    rfl
  · refine ⟨[], .inr ⟨h, rfl⟩, ?_⟩
    unfold Prog.door Prog.rowsG
    dsimp only
    rw [List.idxOf_eq_length h, names_len, List.getElem?_append_right (by rw [List.length_map]; exact Nat.le_refl _), List.length_map, Nat.sub_self]
    rfl
/-- what is kept of the functions' doors -/
def DoorsAt (H : Hp) (dd : Addr) (P : Prog) (l : List Str) : Prop := ∃ kvs, H dd = some (.dK kvs) ∧ kvs.length ≤ l.length ∧ ∀ f ∈ l, ∃ a, valV kvs (.inr f) = some (.ref a) ∧ H a = some (.tup [.int ((P.door f).1 : Nat), .int ((P.door f).2 : Nat)])
theorem DoorsAt.mono {H H' : Hp} {dd : Addr} {P : Prog} {l : List Str} (h : DoorsAt H dd P l) (e : ∀ o, H dd = some o → H' dd = some o) (k : Tk H H') : DoorsAt H' dd P l := by
  obtain ⟨kvs, e1, hl, f⟩ := h
  exact ⟨kvs, e _ e1, hl, fun x hx => (f x hx).imp fun a ⟨h1, h2⟩ => ⟨h1, k _ _ h2⟩⟩
def allN (P : Prog) : List Str := P.names ++ [("" : Str)]
/-- the addresses of a table -/
structure NA where
  (x dx g lk dn dd : Addr)
  vp : V
structure NodesAt (K : PySem.W.Frag) (w : World) (O : Addr → Prop) (H : Hp) (A : NA) (P : Prog) (rows : List NRow) (cl : Bool) : Prop where
  ob : H A.x = some (.ins (He.ga K "Nodes") A.dx [("program", A.vp), ("ground", .ref A.g), ("kept", .ref A.lk), ("numbers", .ref A.dn), ("closed", .bl cl), ("doors", .ref A.dd)])
  pr : Tp H A.vp P.data
  gr : ∃ vs, H A.g = some (.lst vs) ∧ GdsAt O H vs P.gds
  og : O A.g
  od : O A.dd
  drs : DoorsAt H A.dd P (allN P)
  kept : ∃ as, H A.lk = some (.lst (as.map V.ref)) ∧ Paired (RowAt H) as rows ∧ NTab w H A.dn (ents as rows 0)
  ne : A.lk ≠ A.dn ∧ A.x ≠ A.lk ∧ A.x ≠ A.dn ∧ ¬ O A.lk ∧ ¬ O A.dn ∧ ¬ O A.x
section
variable {K : PySem.W.Frag} {w : World} {O : Addr → Prop} {H H' : Hp} {A : NA} {P : Prog} {rows : List NRow} {cl : Bool}
theorem NodesAt.mono (h : NodesAt K w O H A P rows cl) (hb : ∀ b o, (O b ∨ b = A.x ∨ b = A.lk ∨ b = A.dn) → H b = some o → H' b = some o) (k : Tk H H') : NodesAt K w O H' A P rows cl := by
  obtain ⟨ob, pr, ⟨vs, eg, gr⟩, og, od, drs, ⟨as, e1, e2, e3⟩, ne⟩ := h
  refine ⟨hb _ _ (.inr (.inl rfl)) ob, pr.mono k, ⟨vs, hb _ _ (.inl og) eg, gr.mono (fun b o ob e => hb b o (.inl ob) e) k fun _ z => z⟩, og, od, drs.mono (fun o e => hb _ _ (.inl od) e) k, ⟨as, hb _ _ (.inr (.inr (.inl rfl))) e1, rowsAt_mono k e2, ?_⟩, ne⟩
  refine ⟨?_, fun x hx => (e3.keys x hx).mono k⟩
  rcases e3.at_ with e | ⟨e0, e⟩
  · exact .inl (hb _ _ (.inr (.inr (.inr rfl))) e)
  · exact .inr ⟨e0, hb _ _ (.inr (.inr (.inr rfl))) e⟩
theorem NodesAt.same (h : NodesAt K w O H A P rows cl) (s : Same H H') : NodesAt K w O H' A P rows cl := h.mono (fun b o _ e => s b o e) (Same.tk s)
/-- others are changed -/
theorem NodesAt.but {M : List Addr} (h : NodesAt K w O H A P rows cl) (b : NBut M H H') (k : Tk H H') (hM : ∀ m ∈ M, ¬ O m ∧ m ≠ A.x ∧ m ≠ A.lk ∧ m ≠ A.dn) : NodesAt K w O H' A P rows cl :=
  h.mono (fun c o hc e => b c o (fun z => by
    obtain ⟨h1, h2, h3, h4⟩ := hM c z
    rcases hc with hc | hc | hc | hc
    · exact h1 hc
    · exact h2 hc
    · exact h3 hc
    · exact h4 hc) e) k
/-- a place's ground -/
theorem NodesAt.gd {i : Nat} {g : Gd} (h : NodesAt K w O H A P rows cl) (hg : P.gds[i]? = some g) : ∃ vs v, H A.g = some (.lst vs) ∧ vs[i]? = some v ∧ GdAt O H v g := by
  obtain ⟨vs, eg, gr⟩ := h.gr
  obtain ⟨v, h1, h2⟩ := paired_at gr hg
  exact ⟨vs, v, eg, h1, h2⟩
theorem g_ixN {ta tb : TE} {σ : L2.St} {Q : VK} (h : ta σ H fun x H1 => tb σ H1 fun y H2 => rIxG K w x y H2 Q ∨ rGetN w x y H2 Q) : tIxN K w ta tb σ H Q := h
def nodeN (rows : List NRow) (cl : Bool) (r : NRow) : Int × List NRow :=
  match rowIx rows r with
  | some i => ((i : Nat), rows)
  | none => if cl then (-1, rows) else ((rows.length : Nat), rows ++ [r])
def spNode (K : PySem.W.Frag) (w : World) : Sp := fun vs H Q _ => ∃ (O : Addr → Prop) (A : NA) (P : Prog) (rows : List NRow) (cl : Bool) (p : Int) (ts : List Int) (t : Addr), vs = [.ref A.x, .int p, .ref t] ∧ NodesAt K w O H A P rows cl ∧ H t = some (.tup (ts.map V.int)) ∧ rows.length < 16000000 ∧
  ∀ H', NodesAt K w O H' A P (nodeN rows cl (p, ts)).2 cl → NBut [A.lk, A.dn] H H' → Tk H H' → Q (.int (nodeN rows cl (p, ts)).1) H'
theorem pure_node (R : NodesK K) : PureOk 3 (spNode K w) (t_Nodes_node K w) 4 := by
  refine ⟨fun vs H Q E ⟨_, _, _, _, _, _, _, _, e, _⟩ => by rw [e]; rfl, ?_⟩
  rintro vs H Q E ⟨O, A, P, rows, cl, p, ts, t, rfl, hN, et, hl, q⟩
  show t_Nodes_node K w _ [some (.ref A.x), some (.int p), some (.ref t), none] H
  unfold t_Nodes_node
  have hc := R.c
  have hn1 := R.numbers
  have hn2 := R.closed
  have hn3 := R.kept
  walk_at "gg"
  rename_i a H1 na ea s1
  have hN1 := hN.same s1
  have ra : RowAt H1 a (p, ts) := ⟨t, ea, s1 _ _ et⟩
  obtain ⟨ob, pr, gr, og, od, drs, ⟨as, e1, e2, e3⟩, ne⟩ := id hN1
  have hal := Paired.length e2
  have hv := valN_ents (i := 0) (r := (p, ts)) hal
  have hel := ents_len (i := 0) hal
  clear hN1
  have look : ∀ {H2 : Hp} {fs : List (Str × V)} {f : Str} {v : V} {Q' : VK}, H2 A.x = some (.ins (He.ga K "Nodes") A.dx fs) → NoAttr K (He.ga K "Nodes") f → fs.lookup f = some v → Q' v H2 → FldR K f (.ref A.x) H2 Q' := fun e hn hlk q => g_fldr e hc hn hlk q
  have inN : ∀ {Q' : VK}, Q' (.bl (!(valN (ents as rows 0) (p, ts)).isSome)) H1 → rInGN K w true (.ref a) (.ref A.dn) H1 Q' := fun q => .inr ⟨a, A.dn, (p, ts), _, rfl, rfl, ra, e3, q⟩
  have getN : ∀ {H2 : Hp} {xs : List NEnt} {v : V} {Q' : VK}, RowAt H2 a (p, ts) → NTab w H2 A.dn xs → valN xs (p, ts) = some v → Q' v H2 → rIxG K w (.ref A.dn) (.ref a) H2 Q' ∨ rGetN w (.ref A.dn) (.ref a) H2 Q' := fun h1 h2 h3 q => .inr ⟨a, A.dn, (p, ts), _, _, rfl, rfl, h1, h2, h3, q⟩
  cases hix : rowIx rows (p, ts) with
  | some i =>
    have hnode : nodeN rows cl (p, ts) = (((i : Nat) : Int), rows) := by unfold nodeN; rw [hix]
    rw [hix] at hv
    have hv' : valN (ents as rows 0) (p, ts) = some (.int (i : Nat)) := by rw [hv]; show some (V.int ((0 + i : Nat) : Int)) = _; rw [Nat.zero_add]
    rw [hnode] at q
    walk_at "gg"
    refine inN ?_
    rw [hv']
    refine g_bl ?_
    refine g_F rfl ?_
    refine g_F rfl ?_
    walk_at "gg"
    refine inN ?_
    rw [hv']
    refine g_bl ?_
    refine g_F rfl ?_
    walk_at "gg"
    refine g_ixN ?_
    walk_at "gg"
    refine getN ra e3 hv' ?_
    exact q H1 (hN.same s1) (NBut.same s1) (Same.tk s1)
  | none =>
    rw [hix] at hv
    have hv' : valN (ents as rows 0) (p, ts) = none := hv
    walk_at "gg"
    refine inN ?_
    rw [hv']
    refine g_bl ?_
    refine g_T rfl ?_
    walk_at "gg"
    cases cl with
    | true =>
      have hnode : nodeN rows true (p, ts) = (-1, rows) := by unfold nodeN; rw [hix]; rfl
      rw [hnode] at q
      refine g_T rfl ?_
      walk_at "gg"
      exact q H1 (hN.same s1) (NBut.same s1) (Same.tk s1)
    | false =>
      have hnode : nodeN rows false (p, ts) = (((rows.length : Nat) : Int), rows ++ [(p, ts)]) := by unfold nodeN; rw [hix]; rfl
      rw [hnode] at q
      refine g_F rfl ?_
      walk_at "gg"
      refine inN ?_
      rw [hv']
      refine g_bl ?_
      refine g_T rfl ?_
      walk_at "gg"
      rw [show (as.map V.ref).length = rows.length from by rw [List.length_map, hal]]
      refine .inr ⟨a, A.dn, (p, ts), _, rfl, rfl, ra, e3, hv', by rw [hel]; show _ < 16777216; omega, fun H2 e2' c2 => ?_⟩
      obtain ⟨n1, n2, n3, o1, o2, o3⟩ := ne
      have k2 : Tk H1 H2 := c2.tk fun xs e => by
        rcases e3.at_ with e' | ⟨_, e'⟩ <;> rw [e] at e' <;> cases e'
      have ob2 := c2 _ _ n3 ob
      have lk2 := c2 _ _ n1 e1
      walk_at "gg"
      refine g_append lk2 (by rw [List.length_map, hal]; show _ < 16777216; omega) fun H3 e4 c3 => ?_
      have k3 : Tk H2 H3 := c3.tkl lk2
      have ob3 := c3 _ _ n2 ob2
      have ra3 := (ra.mono k2).mono k3
      have b13 : NBut [A.lk, A.dn] H1 H3 := (NBut.chg c2 (by simp)).trans (NBut.chg c3 (by simp))
      have t3 : NTab w H3 A.dn (ents (as ++ [a]) (rows ++ [(p, ts)]) 0) := by
        rw [ents_snoc hal, Nat.zero_add]
        refine ⟨.inl (c3 _ _ n1.symm e2'), fun x hx => ?_⟩
        rcases List.mem_append.mp hx with hx | hx
        · exact ((e3.keys x hx).mono k2).mono k3
        · rw [List.mem_singleton.mp hx]
          exact ra3
      have hv3 : valN (ents (as ++ [a]) (rows ++ [(p, ts)]) 0) (p, ts) = some (.int (rows.length : Nat)) := by
        rw [valN_ents (by rw [List.length_append, List.length_append, hal]; rfl), rowIx_new (rowIx_none.mp hix)]
        show some (V.int ((0 + rows.length : Nat) : Int)) = _
        rw [Nat.zero_add]
      walk_at "gg"
      refine g_ixN ?_
      walk_at "gg"
      refine getN ra3 t3 hv3 ?_
      have s13 : NodesAt K w O H3 A P (rows ++ [(p, ts)]) false := by
        obtain ⟨vs, eg, hgr⟩ := gr
        have hO : ∀ b o, O b → H1 b = some o → H3 b = some o := fun b o ob e => b13 b o (fun z => by
          simp only [List.mem_cons, List.not_mem_nil, or_false] at z
          rcases z with rfl | rfl
          · exact o1 ob
          · exact o2 ob) e
        refine ⟨ob3, pr.mono (k2.trans k3), ⟨vs, hO _ _ og eg, hgr.mono hO (k2.trans k3) fun _ z => z⟩, og, od, drs.mono (fun o e => hO _ _ od e) (k2.trans k3), ⟨as ++ [a], ?_, ?_, t3⟩, n1, n2, n3, o1, o2, o3⟩
        · rw [e4, List.map_append]
          rfl
        · exact Paired.snoc (rowsAt_mono (k2.trans k3) e2) ra3
      exact q H3 s13 ((NBut.same s1).trans b13) ((Same.tk s1).trans (k2.trans k3))
end

/-! ### nodes: the table made, and what it tells -/
theorem GdsAt.there {O : Addr → Prop} {H : Hp} {vs : List V} {gs : List Gd} (h : GdsAt O H vs gs) : GdsAt (fun b => O b ∧ H b ≠ none) H vs gs := Paired.mapP h fun _ _ z => by
  obtain ⟨a, l, u, nv, rfl, e1, t1, ol, e2, t2⟩ := z
  exact ⟨a, l, u, nv, rfl, e1, t1, ⟨ol, by rw [e2]; exact fun z => by cases z⟩, e2, t2⟩
section
variable {K : PySem.W.Frag} {w : World} {O : Addr → Prop} {H H' : Hp} {A : NA} {P : Prog} {rows : List NRow} {cl : Bool}
theorem g_setDoor {dd a : Addr} {l : List Str} {f : Str} {R : Hp → Prop} (h : DoorsAt H dd P l) (hl : l.length ≤ 100) (ea : H a = some (.tup [.int ((P.door f).1 : Nat), .int ((P.door f).2 : Nat)])) (q : ∀ H', DoorsAt H' dd P (l ++ [f]) → Chg dd H H' → Tk H H' → R H') : rSetG (.ref dd) (.str f) (.ref a) H R := by
  obtain ⟨kvs, e, hk, hf⟩ := h
  refine g_setK e (k := .inr f) rfl (by show _ < 16777216; omega) fun H' e' c' => ?_
  have k' : Tk H H' := c'.tk fun xs z => by rw [e] at z; cases z
  refine q H' ⟨_, e', ?_, fun y hy => ?_⟩ c' k'
  · have := length_putK kvs (Sum.inr f : Key) (V.ref a)
    rw [List.length_append, List.length_singleton]
    omega
  · rw [valV_put]
    by_cases hyx : y = f
    · subst hyx
      exact ⟨a, if_pos rfl, k' _ _ ea⟩
    · have hy' : y ∈ l := by
        rcases List.mem_append.mp hy with h | h
        · exact h
        · exact absurd (List.mem_singleton.mp h) hyx
      obtain ⟨b, h1, h2⟩ := hf y hy'
      exact ⟨b, by rw [if_neg (fun z => hyx (Sum.inr.inj z))]; exact h1, k' _ _ h2⟩
/-- the address of a new table -/
structure NewN (H H' : Hp) (A : NA) (O : Addr → Prop) : Prop where
  lk : H A.lk = none
  dn : H A.dn = none
  o : ∀ b, O b → H b = none ∧ H' b ≠ none
def spNodesInit (K : PySem.W.Frag) (w : World) : Sp := fun vs H Q _ => ∃ (x dx : Addr) (v : V) (P : Prog), vs = [.ref x, v] ∧ H x = some (.ins (He.ga K "Nodes") dx []) ∧ Tp H v P.data ∧ P.fine ∧
  ∀ (A : NA) (O : Addr → Prop) H', A.x = x → A.vp = v → NodesAt K w O H' A P [] false → NewN H H' A O → Chg x H H' → Q .non H'
theorem names_lcN {K : PySem.W.Frag} {P : Prog} {H : Hp} {σ : L2.St} {fa : Addr} {vs : List V} {Q : Addr → Hp → Prop} (efa : H fa = some (.tup vs)) (tfs : Tps H vs (P.fs.map Fn1.data)) (hF : P.fine)
    (h1 : ∀ x y z : V, (((wipe σ [3, 4, 5]).set 3 (some x)).set 4 (some y)).set 5 (some z) = (((wipe σ [3, 4, 5]).set 3 (some x)).set 4 (some y)).set 5 (some z) → wipe ((((wipe σ [3, 4, 5]).set 3 (some x)).set 4 (some y)).set 5 (some z)) [3, 4, 5] = wipe σ [3, 4, 5])
    (h3 : ∀ x y z : V, ((((wipe σ [3, 4, 5]).set 3 (some x)).set 4 (some y)).set 5 (some z))[3]? = some (some x))
    (q : ∀ nl H', H nl = none → H' nl = some (.lst (P.names.map V.str)) → Same H H' → Q nl H') :
    LcR (Itt K fa) (gTup K 3 (gCons (gName 3) (gCons (gName 4) (gCons (gName 5) gNil)))) tYes (tVar 3) [3, 4, 5] σ H Q := by
  have hvl : vs.length = P.fs.length := by rw [tfs.length, List.length_map]
  have hfew := hF.few
  refine lc_mapT efa (by omega) (fun i y H' => ∃ f, P.fs[i]? = some f ∧ y = .str f.name) (fun i y H H' k h => h) ?_ ?_
  · intro i x H' Nx hx s hN
    obtain ⟨fd, hfd, td⟩ := tfs.get hx
    rw [List.getElem?_map] at hfd
    obtain ⟨f, hf, rfl⟩ := Option.map_eq_some_iff.mp hfd
    obtain ⟨a3, b3, u3, rfl, ea3, eb3, tu3⟩ := (td.mono (Same.tk s)).fn1
    refine g_un3 ea3 ?_
    refine ⟨h1 _ _ _ rfl, g_var (h3 _ _ _) ?_⟩
    exact hN _ _ (.refl _) ⟨f, hf, rfl⟩
  · intro D ys H2 nD eD hys hFy s2
    refine q D H2 nD ?_ s2
    rw [eD]
    congr 2
    refine List.ext_getElem? fun i => ?_
    show _ = ((P.fs.map (·.name)).map V.str)[i]?
    rw [List.map_map, List.getElem?_map]
    cases e : ys[i]? with
    | none =>
      rw [List.getElem?_eq_none_iff] at e
      rw [List.getElem?_eq_none (by omega)]
      rfl
    | some y =>
      obtain ⟨f, hf, rfl⟩ := hFy i y e
      rw [hf]
      rfl
theorem pure_nodesinit (R : NodesK K) : PureOk 2 (spNodesInit K w) (t_Nodes___init__ K w spGroundOf spWants spPlace) 6 := by
  refine ⟨fun vs H Q E ⟨_, _, _, _, e, _⟩ => by rw [e]; rfl, ?_⟩
  rintro vs H Q E ⟨x, dx, v, P, rfl, ex, tP, hF, q⟩
  show t_Nodes___init__ K w _ _ _ _ [some (.ref x), some v, none, none, none, none] H
  unfold t_Nodes___init__
  have hc := R.c
  walk_at "gg"
  refine g_sfldr ex hc R.program (by show 0 < 1000; decide) (fs' := [("program", v)]) rfl fun H1 e1 c1 => ?_
  have k1 : Tk H H1 := c1.tk fun xs e => by rw [ex] at e; cases e
  walk_at "gg"
  refine ⟨v, P, rfl, tP.mono k1, hF, fun g us H2 ng eg hg s2 => ?_⟩
  walk_at "gg"
  refine g_sfldr (s2 _ _ e1) hc R.ground (by show 1 < 1000; decide) (fs' := [("program", v), ("ground", .ref g)]) rfl fun H3 e3 c3 => ?_
  have ngx : g ≠ x := (ne_of_none e1 ng).symm
  have nx2 : ∀ b, H1 b = none → b ≠ x := fun b hb z => by rw [z, e1] at hb; cases hb
  have k3 : Tk H2 H3 := c3.tk fun xs e => by rw [s2 _ _ e1] at e; cases e
  have hg3 := (hg.mono (fun b o ob e => c3 b o (nx2 b ob) e) k3 fun _ z => z).there
  have eg3 := c3 _ _ ngx eg
  walk_at "gg"
  rename_i lk H4 nlk elk s4
  refine g_sfldr (s4 _ _ e3) hc R.kept (by show 2 < 1000; decide) (fs' := [("program", v), ("ground", .ref g), ("kept", .ref lk)]) rfl fun H5 e5 c5 => ?_
  have nlx : lk ≠ x := (ne_of_none e3 nlk).symm
  walk_at "gg"
  rename_i dn H6 ndn edn s6
  refine g_sfldr (s6 _ _ e5) hc R.numbers (by show 3 < 1000; decide) (fs' := [("program", v), ("ground", .ref g), ("kept", .ref lk), ("numbers", .ref dn)]) rfl fun H7 e7 c7 => ?_
  have ndx : dn ≠ x := (ne_of_none e5 ndn).symm
  have elk5 := c5 _ _ nlx elk
  have nld : lk ≠ dn := ne_of_none elk5 ndn
  have elk7 := c7 _ _ nlx (s6 _ _ elk5)
  have edn7 := c7 _ _ ndx edn
  walk_at "gg"
  refine g_sfldr e7 hc R.closed (by show 4 < 1000; decide) (fs' := [("program", v), ("ground", .ref g), ("kept", .ref lk), ("numbers", .ref dn), ("closed", .bl false)]) rfl fun H8 e8 c8 => ?_
  walk_at "gg"
  rename_i dd H9 ndd edd s9
  have nddx : dd ≠ x := (ne_of_none e8 ndd).symm
  refine g_sfldr (s9 _ _ e8) hc R.doors (by show 5 < 1000; decide) (fs' := [("program", v), ("ground", .ref g), ("kept", .ref lk), ("numbers", .ref dn), ("closed", .bl false), ("doors", .ref dd)]) rfl fun HA eA cA => ?_
  have c3A : Chg x H3 HA := (Chg.same s4).trans (c5.trans ((Chg.same s6).trans (c7.trans (c8.trans ((Chg.same s9).trans cA)))))
  have c0A : Chg x H HA := c1.trans ((Chg.same s2).trans (c3.trans c3A))
  have k3A : Tk H3 HA := c3A.tk fun xs e => by rw [e3] at e; cases e
  have k0A : Tk H HA := c0A.tk fun xs e => by rw [ex] at e; cases e
  have elkA := cA _ _ nlx (s9 _ _ (c8 _ _ nlx elk7))
  have ednA := cA _ _ ndx (s9 _ _ (c8 _ _ ndx edn7))
  have eddA := cA _ _ nddx edd
  have fr : ∀ b, (∀ o, H b = some o → H3 b = some o ∨ b = x) := fun b o e => (Classical.em (b = x)).elim .inr fun n => .inl (c3 _ _ n (s2 _ _ (c1 _ _ n e)))
  have flk : H lk = none := by
    cases e : H lk with
    | none => rfl
    | some o =>
      rcases fr lk o e with e' | e'
      · have : H3 lk = none := nlk
        rw [e'] at this
        cases this
      · exact absurd e' nlx
  have fdn : H dn = none := by
    cases e : H dn with
    | none => rfl
    | some o =>
      have e' : H5 dn = some o := c5 _ _ ndx (s4 _ _ (c3 _ _ ndx (s2 _ _ (c1 _ _ ndx e))))
      have : H5 dn = none := ndn
      rw [e'] at this
      cases this
  have fdd : H dd = none := by
    cases e : H dd with
    | none => rfl
    | some o =>
      have e' : H8 dd = some o := c8 _ _ nddx (c7 _ _ nddx (s6 _ _ (c5 _ _ nddx (s4 _ _ (c3 _ _ nddx (s2 _ _ (c1 _ _ nddx e)))))))
      have : H8 dd = none := ndd
      rw [e'] at this
      cases this
  have nddl : dd ≠ lk := (ne_of_none (c8 _ _ nlx elk7) ndd).symm
  have nddn : dd ≠ dn := (ne_of_none (c8 _ _ ndx edn7) ndd).symm
  obtain ⟨pa, fa, u, vs, rfl, epa, efa, tfs, tas⟩ := (tP.mono k0A).prog
  have ngd : g ≠ dd := ne_of_none (c8 _ _ ngx (c7 _ _ ngx (s6 _ _ (c5 _ _ ngx (s4 _ _ eg3))))) ndd
  have hgA : GdsAt (fun b => (H b = none ∧ b ≠ lk ∧ b ≠ dn) ∧ b ≠ x ∧ b ≠ dd) HA us P.gds := by
    refine hg3.mono (fun b o ob e => c3A b o (nx2 b ob.1) e) k3A fun b ob => ?_
    obtain ⟨h1, h2⟩ := ob
    have nbx := nx2 b h1
    have h0 : H b = none := by
      cases e : H b with
      | none => rfl
      | some o => rw [c1 b o nbx e] at h1; cases h1
    obtain ⟨o3, e3b⟩ := Option.ne_none_iff_exists'.mp h2
    refine ⟨⟨h0, ne_of_none e3b nlk, ne_of_none (c5 _ _ nbx (s4 _ _ e3b)) ndn⟩, nbx, ne_of_none (c8 _ _ nbx (c7 _ _ nbx (s6 _ _ (c5 _ _ nbx (s4 _ _ e3b))))) ndd⟩
  have egA := c3A _ _ ngx eg3
  have fg : H g = none := by
    cases e : H g with
    | none => rfl
    | some o =>
      have : H1 g = none := ng
      rw [c1 _ _ ngx e] at this
      cases this
  have ngl : g ≠ lk := ne_of_none eg3 nlk
  have ngn : g ≠ dn := ne_of_none (c5 _ _ ngx (s4 _ _ eg3)) ndn
  clear e1 e3 e5 e7 e8 s2 s4 s6 s9 c3 c5 c7 c8 cA nlk ndn ndd elk7 edn7 elk5 elk edn edd eg eg3 hg hg3 fr
  walk_at "gg"
  refine g_seqL ?_
  walk_at "gg"
  refine g_seqT ?_
  walk_at "gg"
  refine names_lcN efa tfs hF (fun _ _ _ _ => rfl) (fun _ _ _ => rfl) fun nl HB nnl enl sB => ?_
  walk_at "gg"
  rename_i l2 HC nl2 el2 sC
  have hfew := hF.few
  have hnl := names_len P
  refine g_addL (sC _ _ enl) el2 (by rw [List.length_map, hnl]; show _ + 1 ≤ 16777216; omega) fun al HD nal eal sD => ?_
  walk_at "gg"
  have sAD := sB.trans (sC.trans sD)
  have eal' : HD al = some (.lst ((allN P).map V.str)) := by
    rw [eal]
    unfold allN
    rw [List.map_append]
    rfl
  have nald : al ≠ dd := by
    intro z
    have : HC al = none := nal
    rw [z, sC _ _ (sB _ _ eddA)] at this
    cases this
  have hal : (allN P).length = P.fs.length + 1 := by
    unfold allN
    rw [List.length_append, hnl]
    rfl
  refine for_L (xs := (allN P).map V.str) (fun i σ H' => ∃ (y2 y3 y4 y5 : Option V), σ = [some (.ref x), some (.ref pa), y2, y3, y4, y5] ∧ H' al = some (.lst ((allN P).map V.str)) ∧ DoorsAt H' dd P ((allN P).take i) ∧ Chg dd HA H') (fun i σ H' ⟨_, _, _, _, _, e, _⟩ => e)
    ⟨_, _, _, _, rfl, eal', ⟨[], sAD _ _ eddA, Nat.le_refl _, fun f hf => by rw [List.take_zero] at hf; cases hf⟩, .same sAD⟩ ?_ ?_
  · rintro i y σ H1 hy ⟨y2, y3, y4, y5, rfl, el1, d1, cd1⟩
    rw [List.getElem?_map] at hy
    obtain ⟨f, hf, rfl⟩ := Option.map_eq_some_iff.mp hy
    have exd : HA dd = some (.dK []) := eddA
    have k1 : Tk HA H1 := cd1.tk fun xs e => by rw [exd] at e; cases e
    walk_at "gg"
    refine ⟨_, P, f, _, rfl, (tP.mono k0A).mono k1, hF, idx_num f, fun H2 s2 => ?_⟩
    walk_at "gg"
    obtain ⟨ts, hts, hdt⟩ := door_things hF f
    refine ⟨_, P, f, ts, rfl, ((tP.mono k0A).mono k1).mono (Same.tk s2), hF, hts, fun H3 s3 => ?_⟩
    walk_at "gg"
    rename_i a H4 na ea s4
    have s14 := s2.trans (s3.trans s4)
    have exH : H4 x = some (.ins (He.ga K "Nodes") dx [("program", .ref pa), ("ground", .ref g), ("kept", .ref lk), ("numbers", .ref dn), ("closed", .bl false), ("doors", .ref dd)]) := s14 _ _ (cd1 _ _ nddx.symm eA)
    refine g_fldr exH hc R.doors rfl ?_
    walk_at "gg"
    refine g_setDoor (d1.mono (fun o e => s14 _ _ e) (Same.tk s14)) (by rw [List.length_take]; omega) (f := f) (by rw [hdt]; exact ea) fun H5 d5 c5 k5 => ?_
    refine ⟨_, _, _, _, rfl, c5 _ _ nald (s14 _ _ el1), ?_, cd1.trans ((Chg.same s14).trans c5)⟩
    rw [List.take_add_one, hf]
    exact d5
  · rintro σ H1 ⟨y2, y3, y4, y5, rfl, el1, d1, cd1⟩
    rw [List.length_map, List.take_length] at d1
    have exd : HA dd = some (.dK []) := eddA
    have k1 : Tk HA H1 := cd1.tk fun xs e => by rw [exd] at e; cases e
    have hO : ∀ b o, ((H b = none ∧ b ≠ lk ∧ b ≠ dn) ∧ b ≠ x ∧ b ≠ dd) → HA b = some o → H1 b = some o := fun b o ob e => cd1 b o ob.2.2 e
    have eg1 := cd1 _ _ ngd egA
    have hd1 : H1 dd ≠ none := by
      obtain ⟨kvs, e, _⟩ := d1
      rw [e]
      exact fun z => by cases z
    refine q ⟨x, dx, g, lk, dn, dd, .ref pa⟩ (fun b => (H b = none ∧ b ≠ lk ∧ b ≠ dn) ∧ H1 b ≠ none) H1 rfl rfl ⟨cd1 _ _ nddx.symm eA, (tP.mono k0A).mono k1, ⟨us, eg1, ((hgA.mono hO k1 fun _ z => z.1).there)⟩, ⟨⟨fg, ngl, ngn⟩, by rw [eg1]; exact fun z => by cases z⟩, ⟨⟨fdd, nddl, nddn⟩, hd1⟩, d1,
      ⟨[], cd1 _ _ nddl.symm elkA, .nil, .inr ⟨rfl, cd1 _ _ nddn.symm ednA⟩, fun _ h => by cases h⟩, nld, nlx.symm, ndx.symm, fun z => z.1.2.1 rfl, fun z => z.1.2.2 rfl, fun z => by rw [ex] at z; cases z.1.1⟩
      ⟨flk, fdn, fun b hb => ⟨hb.1.1, hb.2⟩⟩ (Chg.fresh c0A fdd cd1)
def spTold (K : PySem.W.Frag) (w : World) : Sp := fun vs H Q _ => ∃ (O : Addr → Prop) (A : NA) (P : Prog) (rows : List NRow) (cl : Bool) (i : Nat) (r : NRow), vs = [.ref A.x, .int (i : Nat)] ∧ NodesAt K w O H A P rows cl ∧ rows[i]? = some r ∧ ∀ a, RowAt H a r → Q (.ref a) H
theorem pure_told (R : NodesK K) : PureOk 2 (spTold K w) (t_Nodes_told K w) 2 := by
  refine ⟨fun vs H Q E ⟨_, _, _, _, _, _, _, e, _⟩ => by rw [e]; rfl, ?_⟩
  rintro vs H Q E ⟨O, A, P, rows, cl, i, r, rfl, hN, hr, q⟩
  show t_Nodes_told K w _ [some (.ref A.x), some (.int (i : Nat))] H
  unfold t_Nodes_told
  obtain ⟨ob, pr, gr, og, od, drs, ⟨as, e1, e2, e3⟩, ne⟩ := id hN
  walk_at "gg"
  refine g_fldr ob R.c R.kept rfl ?_
  walk_at "gg"
  obtain ⟨a, ha, ra⟩ := paired_at e2 hr
  refine g_ixL (.of e1) (atI_nat (by rw [List.getElem?_map, ha]; rfl)) ?_
  exact q a ra
def spManyN (K : PySem.W.Frag) (w : World) : Sp := fun vs H Q _ => ∃ (O : Addr → Prop) (A : NA) (P : Prog) (rows : List NRow) (cl : Bool), vs = [.ref A.x] ∧ NodesAt K w O H A P rows cl ∧ Q (.int (rows.length : Nat)) H
end

/-! ### the law's own parts within, how many -/
theorem pure_innerN {K : PySem.W.Frag} {w : World} : PureOk 1 spKids (t_law_innerN K w) 3 := by
  refine ⟨fun vs H Q E ⟨_, _, e, _⟩ => by rw [e]; rfl, ?_⟩
  rintro vs H Q E ⟨v, p, rfl, t, hg, hz, q⟩
  show t_law_innerN K w _ [some v, none, none] H
  unfold t_law_innerN
  obtain ⟨pa, xs, rfl, epa, txs⟩ := t.part
  have hks := sz_len p.kids
  have hsk := p.sz_kids
  walk_at "gg"
  rename_i a1 H1 n1 e1 s1
  have epa1 := s1 _ _ epa
  by_cases hleaf : p.word ∈ [("number" : Str), "name", "fun"]
  · refine g_inT (ss := [("number" : Str), "name", "fun"]) (.of e1) ?_
    rw [decide_eq_true hleaf]
    refine g_bl ?_
    refine g_T rfl ?_
    walk_at "gg"
    rename_i l H2 nl el s2
    have hk0 : p.kids = [] := by
      cases p with
      | num n => rfl
      | name n => rfl
      | fn n => rfl
      | letp r a => exact absurd hleaf (by simp only [Part.word]; decide)
      | one k a => cases k <;> exact absurd hleaf (by simp only [Part.word, K1.word]; decide)
      | two k a b => cases k <;> exact absurd hleaf (by simp only [Part.word, K2.word]; decide)
      | whn a b c => exact absurd hleaf (by simp only [Part.word]; decide)
      | shut a => exact hg.1.elim fun _ h => h.elim fun _ h => h.elim
    refine q l [] H2 (s1.free nl) el ?_ (s1.trans s2)
    rw [hk0]
    exact .nil
  refine g_inT (ss := [("number" : Str), "name", "fun"]) (.of e1) ?_
  rw [decide_eq_false hleaf]
  refine g_bl ?_
  refine g_F rfl ?_
  walk_at "gg"
  have t1 := t.mono (Same.tk s1)
  by_cases hlet : p.word = "let"
  · refine g_T (decide_eq_true hlet) ?_
    obtain ⟨r, a, rfl⟩ := nd_let hlet
    obtain ⟨x, ys, rfl, tx, tys⟩ := txs.cons_inv
    obtain ⟨u, zs, rfl, tu, tzs⟩ := tys.cons_inv
    rw [tzs.nil_inv] at epa epa1
    obtain ⟨ra, rs, rfl, era, tr⟩ := tx.tup_inv
    rw [Rows.list_datas] at tr
    have hrl : rs.length = r.list.length := by rw [tr.length, List.length_map]
    have hpl : r.parts.length = r.list.length := by rw [Rows.list_parts, List.length_map]
    have hkl : (Part.letp r a).kids.length = r.parts.length + 1 := by
      show (r.parts ++ [a]).length = _
      rw [List.length_append]
      rfl
    refine g_op (g_lc ?_)
    refine g_seqT ?_
    walk_at "gg"
    refine lc_mapT (s1 _ _ era) (by omega) (fun i y H' => ∃ c, r.parts[i]? = some c ∧ Tp H' y c.data) (fun i y H H' k ⟨c, h1, h2⟩ => ⟨c, h1, h2.mono k⟩) ?_ ?_
    · intro i x H' Nx hx s hN
      obtain ⟨d, hd, td⟩ := tr.get hx
      rw [List.getElem?_map] at hd
      obtain ⟨⟨nm, c⟩, hc, rfl⟩ := Option.map_eq_some_iff.mp hd
      obtain ⟨ca, y1, y2, rfl, eca, tc1, tc2⟩ := (td.mono (Same.tk (s1.trans s))).two
      refine g_name rfl ⟨rfl, ?_⟩
      walk_at "gg"
      exact hN _ _ (.refl _) ⟨c, by rw [Rows.list_parts, List.getElem?_map, hc]; rfl, tc2⟩
    · intro D ys H2 nD eD hyl hyF s2
      walk_at "gg"
      rename_i l3 H3 n3 e3 s3 l H4 nl el s4
      have s14 := s2.trans (s3.trans s4)
      refine q l _ H4 (s1.free (s2.free (s3.free nl))) el ?_ (s1.trans s14)
      show Tps H4 _ ((r.parts ++ [a]).map Part.data)
      rw [List.map_append]
      refine Tps.append (Tps.of_get (by rw [hyl, hrl, List.length_map, hpl]) fun i y hy => ?_) (.one (tu.mono (Same.tk (s1.trans s14))))
      obtain ⟨c, h1, h2⟩ := hyF i y hy
      exact ⟨c.data, by rw [List.getElem?_map, h1]; rfl, h2.mono (Same.tk (s3.trans s4))⟩
  · refine g_F (decide_eq_false hlet) ?_
    have hplain : p.args = p.kids.map Part.data := by
      cases p with
      | num n => exact absurd (show ("number" : Str) ∈ [("number" : Str), "name", "fun"] from by simp) hleaf
      | name n => exact absurd (show ("name" : Str) ∈ [("number" : Str), "name", "fun"] from by simp) hleaf
      | fn n => exact absurd (show ("fun" : Str) ∈ [("number" : Str), "name", "fun"] from by simp) hleaf
      | letp r a => exact absurd rfl hlet
      | shut a => exact hg.1.elim fun _ h => h.elim fun _ h => h.elim
      | _ => rfl
    rw [hplain] at txs
    have hxl : xs.length = p.kids.length := by rw [txs.length, List.length_map]
    refine g_lc ?_
    refine g_seqT ?_
    walk_at "gg"
    refine g_slT (.of epa1) (not_whole (by simp)) fun p2 H2 n2 e2 s2 => ?_
    have e2' : H2 p2 = some (.tup xs) := by
      rw [e2, cut_tail]
    walk_at "gg"
    refine lc_mapT e2' (by omega) (fun i y H' => ∃ c, p.kids[i]? = some c ∧ Tp H' y c.data) (fun i y H H' k ⟨c, h1, h2⟩ => ⟨c, h1, h2.mono k⟩) ?_ ?_
    · intro i x H' Nx hx s hN
      obtain ⟨d, hd, td⟩ := txs.get hx
      rw [List.getElem?_map] at hd
      obtain ⟨c, hc, rfl⟩ := Option.map_eq_some_iff.mp hd
      refine g_name rfl ⟨rfl, ?_⟩
      walk_at "gg"
      exact hN _ _ (.refl _) ⟨c, hc, td.mono (Same.tk (s1.trans (s2.trans s)))⟩
    · intro D ys H3 nD eD hyl hyF s3
      refine q D ys H3 (s1.free (s2.free nD)) eD ?_ (s1.trans (s2.trans s3))
      refine Tps.of_get (by rw [hyl, hxl, List.length_map]) fun i y hy => ?_
      obtain ⟨c, h1, h2⟩ := hyF i y hy
      exact ⟨c.data, by rw [List.getElem?_map, h1]; rfl, h2⟩
def spLMany (n : Nat) : Sp := fun vs H Q _ => ∃ (v : V) (p : Part), vs = [v] ∧ Tp H v p.data ∧ p.good ∧ p.size ≤ 60 ∧ p.deep ≤ n ∧ ∀ H', Same H H' → Q (.int (p.size : Nat)) H'
theorem pure_lmany {K : PySem.W.Frag} {w : World} {n : Nat} : PureOk 1 (spLMany (n + 1)) (t_law_many K w spKids (spLMany n)) 2 := by
  refine ⟨fun vs H Q E ⟨_, _, e, _⟩ => by rw [e]; rfl, ?_⟩
  rintro vs H Q E ⟨v, p, rfl, t, hg, hz, hd, q⟩
  show t_law_many K w _ _ _ [some v, none] H
  unfold t_law_many
  have hks := sz_len p.kids
  have hsk := p.sz_kids
  have hmk := p.mxd_kids
  walk_at "gg"
  refine g_seqL ?_
  walk_at "gg"
  refine ⟨v, p, rfl, t, hg, hz, fun l us H1 nl el tu s1 => ?_⟩
  walk_at "gg"
  have hul : us.length = p.kids.length := by rw [tu.length, List.length_map]
  refine lc_mapL el (by omega) (fun i y _ => ∃ c, p.kids[i]? = some c ∧ y = .int (c.size : Nat)) (fun i y H H' k h => h) ?_ ?_
  · intro i x H' Nx hx s hN
    obtain ⟨d, hd2, td⟩ := tu.get hx
    rw [List.getElem?_map] at hd2
    obtain ⟨c, hc, rfl⟩ := Option.map_eq_some_iff.mp hd2
    have hcm := List.mem_of_getElem? hc
    have h1 := sz_mem hcm
    have h2 := mxd_mem hcm
    refine g_name rfl ⟨rfl, ?_⟩
    walk_at "gg"
    exact ⟨x, c, rfl, td.mono (Same.tk s), hg.kids c hcm, by omega, by omega, fun H2 s2 => hN _ _ s2 ⟨c, hc, rfl⟩⟩
  · intro D ys H2 nD eD hyl hyF s2
    have hys : ys = (p.kids.map fun q => (q.size : Int)).map V.int := by
      refine List.ext_getElem? fun i => ?_
      rw [List.map_map, List.getElem?_map]
      cases e : ys[i]? with
      | none =>
        rw [List.getElem?_eq_none_iff] at e
        rw [List.getElem?_eq_none (by omega)]
        rfl
      | some y =>
        obtain ⟨c, hc, rfl⟩ := hyF i y e
        rw [hc]
        rfl
    walk_at "gg"
    refine ⟨D, _, rfl, .of (by rw [eD, hys]), ?_⟩
    walk_at "gg"
    rw [sum_sz, show (1 : Int) + ((sz p.kids : Nat) : Int) = ((p.size : Nat) : Int) from by omega]
    exact q H2 (s1.trans s2)

/-! ### k15: how many things at each place; a table looked at -/
def allFn (P : Prog) : List Fn1 := P.fs ++ [⟨("" : Str), [], P.asked⟩]
def sizesL : List Fn1 → List Nat
  | [] => []
  | f :: r => List.replicate f.body.size f.things.length ++ sizesL r
theorem sizesL_app : ∀ a b : List Fn1, sizesL (a ++ b) = sizesL a ++ sizesL b
  | [], b => rfl
  | f :: a, b => by
    show _ ++ sizesL (a ++ b) = (_ ++ sizesL a) ++ sizesL b
    rw [sizesL_app a b, List.append_assoc]
theorem sizesL_len : ∀ a : List Fn1, (sizesL a).length = sz (a.map (·.body))
  | [] => rfl
  | f :: a => by
    show (_ ++ sizesL a).length = f.body.size + sz (a.map (·.body))
    rw [List.length_append, List.length_replicate, sizesL_len a]
theorem allFn_bodies (P : Prog) : (allFn P).map (·.body) = P.bodies := by
  unfold allFn Prog.bodies
  rw [List.map_append]
  rfl
theorem allFn_len (P : Prog) : (allFn P).length = P.fs.length + 1 := by
  unfold allFn
  rw [List.length_append]
  rfl
theorem allFn_fine {P : Prog} (hF : P.fine) : ∀ f ∈ allFn P, f.things.length ≤ 4 ∧ f.body.good ∧ f.body.size ≤ 60 ∧ f.body.deep ≤ 12 := by
  intro f hf
  rcases List.mem_append.mp hf with h | h
  · have := hF.fs f h
    exact ⟨this.few, this.body.good, this.body.size, this.body.deep⟩
  · rw [List.mem_singleton.mp h]
    exact ⟨Nat.zero_le _, hF.asked.good, hF.asked.size, hF.asked.deep⟩
theorem sizesL_le {l : List Fn1} (h : ∀ f ∈ l, f.things.length ≤ 4) : ∀ n ∈ sizesL l, n ≤ 4 := by
  induction l with
  | nil => intro n hn; cases hn
  | cons f l ih =>
    intro n hn
    rcases List.mem_append.mp hn with hn | hn
    · rw [(List.mem_replicate.mp hn).2]
      exact h f List.mem_cons_self
    · exact ih (fun g hg => h g (List.mem_cons_of_mem _ hg)) n hn
theorem sizes_total {P : Prog} (hF : P.fine) : (sizesL (allFn P)).length ≤ 540 := by
  rw [sizesL_len, allFn_bodies]
  exact hF.total
theorem bodies_pos {P : Prog} : 0 < (sizesL (allFn P)).length := by
  rw [sizesL_len, allFn_bodies]
  have h1 := sz_len P.bodies
  have h2 : P.bodies.length = P.fs.length + 1 := P.bodies_len
  omega
theorem rep_nInts (n k : Nat) : (List.replicate n [V.int (k : Nat)]).flatten = nInts (List.replicate n k) := by
  induction n with
  | zero => rfl
  | succ n ih =>
    rw [List.replicate_succ, List.replicate_succ, List.flatten_cons, ih]
    rfl
def spRowsN : Sp := fun vs H Q _ => ∃ (v : V) (P : Prog), vs = [v] ∧ Tp H v P.data ∧ P.fine ∧ ∀ (l : Addr) (H' : Hp), H l = none → H' l = some (.lst (nInts (sizesL (allFn P)))) → Same H H' → Q (.ref l) H'
theorem sz_takeF {l : List Fn1} (k : Nat) : sz ((l.take k).map (·.body)) ≤ sz (l.map (·.body)) := by
  rw [List.map_take]
  exact sz_take_le k _
def rowDt (r : NRow) : PyData := .tuple [.int r.1, .tuple (r.2.map .int)]
theorem RowAt.tp {H : Hp} {a : Addr} {r : NRow} (h : RowAt H a r) : Tp H (.ref a) (rowDt r) := by
  obtain ⟨t, e1, e2⟩ := h
  exact .tup e1 (.cons (.int _) (.one (.tup e2 (Tps.ints _))))
theorem lay_ints : ∀ ns : List Int, PyData.canLayAll0 (ns.map PyData.int) = true ∧ PyData.depthAll (ns.map PyData.int) ≤ 1
  | [] => ⟨rfl, by simp [PyData.depthAll]⟩
  | n :: ns => by
    obtain ⟨h1, h2⟩ := lay_ints ns
    constructor
    · simp [PyData.canLayAll0, PyData.canLay0, h1]
    · simp only [List.map_cons, PyData.depthAll, PyData.depth]
      omega
theorem rowDt_lay (r : NRow) : PyData.canLay0 (rowDt r) = true ∧ PyData.depth (rowDt r) ≤ 3 := by
  obtain ⟨h1, h2⟩ := lay_ints r.2
  constructor
  · simp [rowDt, PyData.canLay0, PyData.canLayAll0, h1]
  · simp only [rowDt, PyData.depth, PyData.depthAll]
    omega
theorem rows_shaped (rs : List NRow) : SeqAt.shaped (.list (rs.map rowDt)) = true :=
  shaped_list (k := 3) (fun d hd => by obtain ⟨r, _, rfl⟩ := List.mem_map.mp hd; exact (rowDt_lay r).1) (fun d hd => by obtain ⟨r, _, rfl⟩ := List.mem_map.mp hd; exact (rowDt_lay r).2) (by decide)
section
variable {K : PySem.W.Frag} {w : World}
def spRight15 (K : PySem.W.Frag) (w : World) : Sp := fun vs H Q _ => ∃ (O : Addr → Prop) (A : NA) (P : Prog) (rows : List NRow) (cl : Bool) (l : Addr) (bs : List Addr), vs = [.ref A.x, .ref l] ∧ NodesAt K w O H A P rows cl ∧ H l = some (.lst (bs.map V.ref)) ∧ Paired (RowAt H) bs rows ∧ rows.length ≤ 100000 ∧ ∀ H', Same H H' → Q (.bl true) H'
end

/-! ### nodes: what laws draw and look up -/
/-- draws one behind the other -/
theorem lc_rngP {H1 : Hp} {g : TG} {te : TE} {vs : List Nat} {σ : L2.St} {n : Nat} {Qd : Addr → Hp → Prop} {pen L : Addr} (hl : n ≤ 100000) (hP : PenAt H1 pen L) (F : Int → Prop)
    (hs : ∀ (i : Nat) H' (Nx : V → Hp → Prop), i < n → PenAt H' pen L → Chg pen H1 H' → (∀ (y : Int) H4, PenAt H4 pen L → Chg pen H' H4 → F y → Nx (.int y) H4) → g (.int (0 + (i : Nat))) (wipe σ vs) H' fun σ2 H2 => wipe σ2 vs = wipe σ vs ∧ te σ2 H2 Nx)
    (hd : ∀ D (ys : List Int) H', Fr H1 D → H' D = some (.lst (ys.map V.int)) → ys.length = n → (∀ y ∈ ys, F y) → PenAt H' pen L → Chg pen H1 H' → Qd D H') : LcR (Itr 0 n) g tYes te vs σ H1 Qd := by
  intro D hD
  have hn := hP.ne hD
  refine lc_any n (fun i acc H' => ∃ ys : List Int, acc = ys.map V.int ∧ ys.length = i ∧ (∀ y ∈ ys, F y) ∧ PenAt H' pen L ∧ Chg pen H1 H') hD (fun H' _ s => ⟨[], rfl, rfl, (by simp), hP.same s, .same s⟩)
    (fun i acc H' hi _ => hi) (fun acc H' _ => Nat.le_refl _) ?_ ?_
  · rintro i x acc _ H' hi hla ⟨ys, rfl, hy, hF, p2, c2⟩ hd2 ⟨rfl, rfl⟩
    refine hs i _ _ hi p2 c2 fun y H4 p4 c4 f4 => ?_
    have ed4 := c4 _ _ hn.1.symm hd2
    refine lc_step ed4 hla (by show _ < 16777216; omega) fun H5 e5 c5 => ?_
    refine ⟨ys ++ [y], by rw [List.map_append]; rfl, by rw [List.length_append, hy]; rfl, fun z hz => ?_, p4.chg c5 hn.1 hn.2, (c2.trans c4).fresh hD c5⟩
    rcases List.mem_append.mp hz with hz | hz
    · exact hF z hz
    · rw [List.mem_singleton.mp hz]
      exact f4
  · rintro acc H' hd2 ⟨ys, rfl, hy, hF, p2, c2⟩
    exact hd D ys H' hD hd2 hy hF p2 c2
section
variable {K : PySem.W.Frag} {w : World} {H : Hp} {Q : VK}
end
theorem SqL.toN {K : PySem.W.Frag} {H H' : Hp} {a pen : Addr} {xs : List V} (h : SqL K H a xs) (n : H pen = none) (c : Chg pen H H') : SqL K H' a xs :=
  have s : ∀ b o, H b = some o → H' b = some o := fun b o e => c b o (ne_of_none e n) e
  h.elim (fun h => .inl (h.elim (fun h => .inl (s _ _ h)) fun ⟨o, h⟩ => .inr ⟨o, s _ _ h⟩)) .inr

/-! ### the law's own grounds -/
def lgTail (K : PySem.W.Frag) (w : World) (s_law_ground : Sp) : TS :=
  (tSeq (tAsg (tLstN (tCons (tTupN (tCons (tVar 0) (tCons (tVar 3) (tCons (tIf (tTest (tOp (rEqG K) (tIxG K w (tVar 0) (tC (.int 0))) (tC (.str "name")))) (tIxG K w (tVar 2) (tIxG K w (tVar 0) (tC (.int 1)))) (tC .non)) tNil)))) tNil)) (gName 8))
  (tSeq (tFor (iZipM K (tCons (tVar 5) (tCons (tVar 3) tNil))) (gTup K 2 (gCons (gName 6) (gCons (gName 4) gNil))) (tAsg (tOp (rAddG K) (tVar 8) (tCall s_law_ground [] E0 (tCons (tVar 6) (tCons (tVar 4) (tCons (tVar 2) tNil))))) (gName 8)))
  (tRet (tVar 8))))
def lgKeep (K : PySem.W.Frag) (w : World) : TS :=
  (tFor (iZipM K (tCons (tVar 5) (tCons (tVar 3) tNil))) (gTup K 2 (gCons (gName 6) (gCons (gName 4) gNil))) tNext)
section
variable {K : PySem.W.Frag} {w : World} {H0 H : Hp} {Q : VK} {v : V} {p : Part} {i m n : Nat} {d il pl : Addr} {kn : Known} {fs sc : List Str} {x4 x6 x7 x8 : Option V} {us : List V} {N : L2.St → Hp → Prop}
theorem lgTail_ok (t : Tp H v p.data) (hg : p.good) (hz : p.size ≤ 60) (hok : p.ok fs sc) (hsc : ∀ x ∈ sc, (kn x).isSome = true) (eil : H il = some (.lst (nInts (placesOf p.kids (i + 1))))) (fil : H0 il = none) (s0 : Same H0 H)
    (epl : H pl = some (.lst us)) (tus : Tps H us (p.kids.map Part.data)) (hkn : KnowAt H d (p.inKn i kn) m) (hm : m + 4 * p.deep ≤ 204) (hd : p.deep ≤ n + 1)
    (q : ∀ (l : Addr) (us : List V) (H' : Hp), H0 l = none → H' l = some (.lst us) → GdsAt (fun b => H0 b = none) H' us (p.gds i kn) → Same H0 H' → Q (.ref l) H') :
    lgTail K w (spGrounds n) { nx := N, rt := Q } [some v, some (.int (i : Nat)), some (.ref d), some (.ref il), x4, some (.ref pl), x6, x7, x8] H := by
  unfold lgTail
  obtain ⟨pa, xs, rfl, epa, txs⟩ := t.part
  have key : ∀ (nv : V), Tp H nv (nmData (p.nm kn)) → ∀ (ga f : Addr) (H2 : Hp), H2 ga = some (.tup [.ref pa, .ref il, nv]) → Fr H f → H2 f = some (.lst [.ref ga]) → Same H H2 →
      (tSeq (tFor (iZipM K (tCons (tVar 5) (tCons (tVar 3) tNil))) (gTup K 2 (gCons (gName 6) (gCons (gName 4) gNil))) (tAsg (tOp (rAddG K) (tVar 8) (tCall (spGrounds n) [] E0 (tCons (tVar 6) (tCons (tVar 4) (tCons (tVar 2) tNil))))) (gName 8)))
      (tRet (tVar 8))) { nx := N, rt := Q } [some (.ref pa), some (.int (i : Nat)), some (.ref d), some (.ref il), x4, some (.ref pl), x6, x7, some (.ref f)] H2 := by
    intro nv tnv ga f H2 e1 nf ef s12
    have s02 := s0.trans s12
    walk_at "gg"
    have fnf : H0 f = none := s0.free nf
    refine ⟨.lst, .lst, _, _, _, _, rfl, .of (s12 _ _ epl), .of (s12 _ _ eil), ?_⟩
    have hul : us.length = p.kids.length := by rw [tus.length, List.length_map]
    have hks := sz_len p.kids
    have hsk := p.sz_kids
    have hmk := p.mxd_kids
    obtain ⟨sc', hk1, hk2⟩ := kids_ok (i := i) hok hsc
    refine for_M (xs := us) (ys := nInts (placesOf p.kids (i + 1))) (fun k σ H' => ∃ (x4 x6 : Option V) (l : Addr) (gs : List V), σ = [some (.ref pa), some (.int (i : Nat)), some (.ref d), some (.ref il), x4, some (.ref pl), x6, x7, some (.ref l)] ∧ H' l = some (.lst gs) ∧ H0 l = none ∧
        GdsAt (fun b => H0 b = none) H' gs (⟨p, placesOf p.kids (i + 1), p.nm kn⟩ :: kidsGds (p.kids.take k) (i + 1) (p.inKn i kn)) ∧ H' pl = some (.lst us) ∧ H' il = some (.lst (nInts (placesOf p.kids (i + 1)))) ∧ Same H2 H')
      (fun k σ H' ⟨_, _, _, _, _, _, _, _, e1, e2, _⟩ => ⟨.of e1, .of e2⟩)
      ⟨_, _, f, _, rfl, ef, fnf, .cons ⟨ga, il, .ref pa, nv, rfl, e1, t.mono (Same.tk s12), fil, s12 _ _ eil, tnv.mono (Same.tk s12)⟩ .nil, s12 _ _ epl, s12 _ _ eil, .refl _⟩ ?_ ?_
    · rintro k x y T σ H4 H5 hx hy ⟨x4, x6, l, gs, rfl, el4, fl4, hgs4, ek4, ei4, s4⟩ nT eT sT
      obtain ⟨dd, hdd, tx⟩ := tus.get hx
      rw [List.getElem?_map] at hdd
      obtain ⟨c, hc, rfl⟩ := Option.map_eq_some_iff.mp hdd
      have hcm := List.mem_of_getElem? hc
      have hcs := sz_mem hcm
      have hcd := mxd_mem hcm
      have hy2 := nInts_at (placesOf_at (i := i + 1) hc)
      rw [hy] at hy2
      cases hy2
      refine g_un2 eT ?_
      walk_at "gg"
      have s15 := s12.trans (s4.trans sT)
      refine ⟨x, c, i + 1 + sz (p.kids.take k), d, p.inKn i kn, m, fs, sc', rfl, tx.mono (Same.tk s15), hg.kids c hcm, by omega, ⟨hk1 c hcm, hk2⟩, hkn.same s15, by omega, by omega, fun l6 us6 H6 nl6 el6 hg6 s6 => ?_⟩
      have el4' := s6 _ _ (sT _ _ el4)
      have gl6 : us6.length ≤ 60 := by rw [Paired.length hg6, Part.gds_len]; omega
      have gl4 : gs.length ≤ 61 := by
        have h1 := sz_take_le k p.kids
        rw [Paired.length hgs4, List.length_cons, kidsGds_len]
        omega
      refine g_addL el4' el6 (by show _ ≤ 16777216; omega) fun l7 H7 nl7 el7 s7 => ?_
      walk_at "gg"
      have s46 := sT.trans s6
      have s47 := s46.trans s7
      refine ⟨_, _, l7, _, rfl, el7, s02.free (s4.free (s46.free nl7)), ?_, s47 _ _ ek4, s47 _ _ ei4, s4.trans s47⟩
      rw [kidsGds_take hc]
      refine paired_append (xs := gs) (ys := _ :: kidsGds (p.kids.take k) (i + 1) (p.inKn i kn)) (hgs4.same s47) ?_
      exact (hg6.same s7).mono (fun _ _ _ e => e) (.refl _) fun b ob => s02.free (s4.free (sT.free ob))
    · rintro σ H4 ⟨x4, x6, l, gs, rfl, el4, fl4, hgs4, ek4, ei4, s4⟩
      have hmin : min us.length (nInts (placesOf p.kids (i + 1))).length = p.kids.length := by
        rw [nInts_len, placesOf_len, hul]
        omega
      rw [hmin, List.take_length, ← gds_eq] at hgs4
      walk_at "gg"
      exact q l gs H4 fl4 el4 hgs4 (s02.trans s4)
  refine g_seq (g_asg (g_lst (g_cons (g_tup (g_cons (g_var rfl (g_cons (g_var rfl (g_cons ?_)))))))))
  refine g_ifx ?_
  walk_at "gg"
  by_cases hw : p.word = "name"
  · obtain ⟨x, rfl⟩ := nd_name hw
    obtain ⟨y, ys, rfl, ty, ty2⟩ := txs.cons_inv
    rw [ty.str_inv, ty2.nil_inv] at epa
    refine g_T (decide_eq_true hw) ?_
    walk_at "gg"
    have hx : (kn x).isSome = true := hsc x hok.1
    obtain ⟨mm, hmm⟩ := Option.isSome_iff_exists.mp hx
    obtain ⟨kvs, e, l, f⟩ := hkn
    obtain ⟨nv, h1, h2⟩ := f x mm hmm
    refine g_ixD e (k := .inr x) rfl h1 ?_
    refine g_nil ⟨(by show 3 ≤ 16777216; decide), fun ga H1 n1 e1 s1 => ?_⟩
    refine g_nil ⟨(by show 1 ≤ 16777216; decide), fun f2 H2 n2 e2 s2 => ?_⟩
    refine g_name rfl ?_
    refine key nv ?_ ga f2 H2 (s2 _ _ e1) (s1.free n2) e2 (s1.trans s2)
    show Tp H nv (nmData (kn x))
    rw [hmm]
    exact h2
  · refine g_F (decide_eq_false hw) ?_
    refine g_c ?_
    refine g_nil ⟨(by show 3 ≤ 16777216; decide), fun ga H1 n1 e1 s1 => ?_⟩
    refine g_nil ⟨(by show 1 ≤ 16777216; decide), fun f2 H2 n2 e2 s2 => ?_⟩
    refine g_name rfl ?_
    refine key .non ?_ ga f2 H2 (s2 _ _ e1) (s1.free n2) e2 (s1.trans s2)
    have : p.nm kn = none := by
      cases p with
      | name x => exact absurd rfl hw
      | _ => rfl
    rw [this]
    exact .non
theorem pure_lground : PureOk 3 (spGrounds (n + 1)) (t_law_ground K w spKids (spLMany 12) (spGrounds n)) 9 := by
  refine ⟨fun vs H Q E ⟨_, _, _, _, _, _, _, _, e, _⟩ => by rw [e]; rfl, ?_⟩
  rintro vs H Q E ⟨v, p, i, d, kn, m, fs, sc, rfl, t, hg, hz, ⟨hok, hsc⟩, hkn, hm, hd, q⟩
  show t_law_ground K w _ _ _ _ [some v, some (.int (i : Nat)), some (.ref d), none, none, none, none, none, none] H
  unfold t_law_ground
  obtain ⟨pa, xs, rfl, epa, txs⟩ := t.part
  have hks := sz_len p.kids
  have hsk := p.sz_kids
  have hgd := hg.2
  walk_at "gg"
  rename_i il H1 nil' eil s1
  walk_at "gg"
  refine ⟨_, p, rfl, t.mono (Same.tk s1), hg, hz, fun pl us H2 npl epl tus s2 => ?_⟩
  walk_at "gg"
  refine g_seqL ?_
  walk_at "gg"
  have hul : us.length = p.kids.length := by rw [tus.length, List.length_map]
  have npi : pl ≠ il := (ne_of_none eil npl).symm
  have fil : H il = none := nil'
  refine for_L (xs := us) (fun k σ H' => ∃ (x6 : Option V), σ = [some (.ref pa), some (.int (i : Nat)), some (.ref d), some (.ref il), some (.int ((i + 1 + sz (p.kids.take k) : Nat) : Int)), some (.ref pl), x6, none, none] ∧ H' il = some (.lst (nInts (placesOf (p.kids.take k) (i + 1)))) ∧ H' pl = some (.lst us) ∧ Tk H2 H' ∧ Same H H')
    (fun k σ H' ⟨_, _, _, e, _⟩ => e) ⟨none, by simp [sz], s2 _ _ eil, epl, .refl _, s1.trans s2⟩ ?_ ?_
  · rintro k x σ H3 hx ⟨x6, rfl, ef3, el3, k3, s3⟩
    obtain ⟨dd, hdd, tx⟩ := tus.get hx
    rw [List.getElem?_map] at hdd
    obtain ⟨c, hc, rfl⟩ := Option.map_eq_some_iff.mp hdd
    have hcm := List.mem_of_getElem? hc
    have hcs := sz_mem hcm
    have hcd := (hg.kids c hcm).2
    walk_at "gg"
    have hpl : (placesOf (p.kids.take k) (i + 1)).length ≤ 60 := by
      rw [placesOf_len, List.length_take]
      omega
    refine g_append ef3 (by rw [nInts_len]; show _ < 16777216; omega) fun H4 e4 c4 => ?_
    walk_at "gg"
    have k4 : Tk H3 H4 := c4.tkl ef3
    refine ⟨x, c, rfl, (tx.mono k3).mono k4, hg.kids c hcm, by omega, hcd, fun H5 s5 => ?_⟩
    walk_at "gg"
    refine ⟨some x, ?_, ?_, s5 _ _ (c4 _ _ npi el3), (k3.trans k4).trans (Same.tk s5), (Same.chg s3 fil c4).trans s5⟩
    · rw [sz_take_succ hc]
      have : ((i + 1 + sz (p.kids.take k) : Nat) : Int) + ((c.size : Nat) : Int) = ((i + 1 + (sz (p.kids.take k) + c.size) : Nat) : Int) := by omega
      rw [this]
    · rw [placesOf_take hc, nInts_app]
      exact s5 _ _ e4
  · rintro σ H3 ⟨x6, rfl, ef3, el3, k3, s3⟩
    rw [hul, List.take_length] at ef3
    have t3 := t.mono (Same.tk s3)
    have epa3 := s3 _ _ epa
    walk_at "gg"
    by_cases hw : p.word = "let"
    · obtain ⟨r, a, rfl⟩ := nd_let hw
      refine g_T (decide_eq_true hw) ?_
      obtain ⟨kvs, ed, hkl, hkf⟩ := hkn
      walk_at "gg"
      rename_i f H4 nf ef s4
      have s34 := s3.trans s4
      obtain ⟨x, ys, rfl, tx, tys⟩ := txs.cons_inv
      obtain ⟨u, zs, rfl, tu, tzs⟩ := tys.cons_inv
      rw [tzs.nil_inv] at epa epa3
      obtain ⟨ra, rs, rfl, era, tr⟩ := tx.tup_inv
      rw [Rows.list_datas] at tr
      have hrl : rs.length = r.list.length := by rw [tr.length, List.length_map]
      have hpl : r.parts.length = r.list.length := by rw [Rows.list_parts, List.length_map]
      have hnl : r.names.length = r.list.length := by rw [Rows.list_names, List.length_map]
      obtain ⟨h4, _⟩ := id hok
      walk_at "gg"
      refine ⟨.tup, .lst, _, _, _, _, rfl, .of (s34 _ _ era), .of (s4 _ _ ef3), ?_⟩
      refine for_M (xs := rs) (ys := nInts (placesOf (r.parts ++ [a]) (i + 1))) (fun k σ H' => ∃ (x4 x6 x7 : Option V), σ = [some (.ref pa), some (.int (i : Nat)), some (.ref f), some (.ref il), x4, some (.ref pl), x6, x7, none] ∧ KnowAt H' f (knowsL (r.list.take k) (i + 1) kn) (m + k) ∧ Same H3 H')
        (fun k σ H' ⟨_, _, _, _, _, s⟩ => ⟨.of (s _ _ (s3 _ _ era)), .of (s _ _ ef3)⟩) ⟨_, _, none, rfl, ⟨kvs, ef, hkl, fun x mm hmm => (hkf x mm hmm).imp fun v ⟨a, b⟩ => ⟨a, b.mono (Same.tk s34)⟩⟩, s4⟩ ?_ ?_
      · rintro k x y T σ H5 H6 hx hy ⟨x4, x6, x7, rfl, k5, s5⟩ nT eT sT
        obtain ⟨dd, hdd, tx⟩ := tr.get hx
        rw [List.getElem?_map] at hdd
        obtain ⟨⟨nm, c⟩, hc, rfl⟩ := Option.map_eq_some_iff.mp hdd
        obtain ⟨ca, y1, y2, rfl, eca, tc1, tc2⟩ := (tx.mono (Same.tk (s3.trans (s5.trans sT)))).two
        rw [tc1.str_inv] at eca
        have hcp : r.parts[k]? = some c := by rw [Rows.list_parts, List.getElem?_map, hc]; rfl
        have hklt := (List.getElem?_eq_some_iff.mp hcp).1
        have hcp2 : (r.parts ++ [a])[k]? = some c := by rw [List.getElem?_append_left hklt]; exact hcp
        have hy2 := nInts_at (placesOf_at (i := i + 1) hcp2)
        rw [hy] at hy2
        cases hy2
        have k6 := k5.same sT
        refine g_un2 eT ?_
        walk_at "gg"
        rename_i b H7 nb eb s7
        walk_at "gg"
        refine g_setKn (k6.same s7) (by omega) (m := .row (i + 1 + sz ((r.parts ++ [a]).take k))) (.tup eb (.cons (.str _) (.one (.int _)))) fun H8 k8 c8 kk8 => ?_
        refine ⟨_, _, _, rfl, ?_, Same.chg ((s5.trans sT).trans s7) nf c8⟩
        have : r.list.take (k + 1) = r.list.take k ++ [(nm, c)] := by rw [List.take_add_one, hc]; rfl
        rw [this, knowsL_snoc]
        have e2 : ((r.list.take k).map (·.2)) = (r.parts ++ [a]).take k := by
          rw [List.take_append_of_le_length (by omega), Rows.list_parts, List.map_take]
        rw [e2]
        exact k8
      · rintro σ H5 ⟨x4, x6, x7, rfl, k5, s5⟩
        have hmin : min rs.length (nInts (placesOf (r.parts ++ [a]) (i + 1))).length = r.list.length := by
          rw [nInts_len, placesOf_len, List.length_append, List.length_singleton, hrl, hpl]
          omega
        rw [hmin, List.take_length, ← knowsL_rows] at k5
        have hdd : 1 + max r.deep a.deep = (Part.letp r a).deep := rfl
        exact lgTail_ok (H0 := H) (m := m + 4) (t3.mono (Same.tk s5)) hg hz hok hsc (s5 _ _ ef3) fil (s3.trans s5) (s5 _ _ el3) (tus.mono (k3.trans (Same.tk s5))) (k5.mono (fun _ e => e) (.refl _) (by omega)) (by omega) hd q
    · refine g_F (decide_eq_false hw) (g_next ?_)
      have : p.inKn i kn = kn := by
        cases p with
        | letp r a => exact absurd rfl hw
        | _ => rfl
      exact lgTail_ok (H0 := H) t3 hg hz hok hsc ef3 fil s3 el3 (tus.mono k3) (m := m) (by rw [this]; exact hkn.same s3) (by omega) hd q
end

/-! ### the law's own grounds of a program -/
theorem rowsG_all (P : Prog) : P.rowsG = (allFn P).map fun f => (f.things, f.body) := by
  unfold Prog.rowsG allFn
  rw [List.map_append]
  rfl
theorem allFn_names (P : Prog) : (allFn P).map (·.name) = allN P := by
  unfold allFn allN Prog.names
  rw [List.map_append]
  rfl
theorem idx_nd {l : List Str} {x : Str} {i : Nat} (nd : l.Nodup) (h : l[i]? = some x) : l.idxOf x = i := by
  have h1 := (List.getElem?_eq_some_iff.mp h).1
  have h2 := (List.getElem?_eq_some_iff.mp h).2
  rw [← h2]
  exact nd.idxOf_getElem i h1
theorem empty_notin {P : Prog} (hF : P.fine) : ("" : Str) ∉ P.names := by
  intro hm
  obtain ⟨f, hf1, hf2⟩ := List.mem_map.mp hm
  have := (hF.fs f hf1).nm.1
  rw [hf2] at this
  exact absurd this (by decide)
theorem door_at {P : Prog} (hF : P.fine) {k : Nat} {fn : Fn1} (h : (allFn P)[k]? = some fn) : P.door fn.name = (sz (P.bodies.take k), fn.things.length) := by
  have hidx : P.names.idxOf fn.name = k := by
    by_cases hk : k < P.fs.length
    · have h1 : P.fs[k]? = some fn := by
        unfold allFn at h
        rw [List.getElem?_append_left hk] at h
        exact h
      exact idx_nd hF.nd (by show (P.fs.map (·.name))[k]? = _; rw [List.getElem?_map, h1]; rfl)
    · unfold allFn at h
      rw [List.getElem?_append_right (by omega)] at h
      have hk2 := (List.getElem?_eq_some_iff.mp h).1
      simp at hk2
      have hk3 : k = P.fs.length := by omega
      rw [hk3, Nat.sub_self] at h
      cases h
      rw [List.idxOf_eq_length (empty_notin hF), names_len, hk3]
  unfold Prog.door
  rw [hidx, rowsG_all, List.getElem?_map, h]
  rfl
def spLGrounds : Sp := fun vs H Q _ => ∃ (v : V) (P : Prog), vs = [v] ∧ Tp H v P.data ∧ P.fine ∧ ∀ (l g dd : Addr) (us : List V) (H' : Hp), H l = none → H g = none → H dd = none → H' l = some (.lst [.ref g, .ref dd]) → H' g = some (.lst us) → GdsAt (fun b => H b = none) H' us P.gds → DoorsAt H' dd P (allN P) → Same H H' → Q (.ref l) H'
theorem pure_lgrounds {K : PySem.W.Frag} {w : World} : PureOk 1 spLGrounds (t_law_grounds K w (spGrounds 12)) 9 := by
  refine ⟨fun vs H Q E ⟨_, _, e, _⟩ => by rw [e]; rfl, ?_⟩
  rintro vs H Q E ⟨v, P, rfl, tP, hF, q⟩
  show t_law_grounds K w _ _ [some v, none, none, none, none, none, none, none, none] H
  unfold t_law_grounds
  obtain ⟨pa, fa, u, vs, rfl, epa, efa, tfs, tas⟩ := tP.prog
  have hvl : vs.length = P.fs.length := by rw [tfs.length, List.length_map]
  have hfew := hF.few
  walk_at "gg"
  rename_i f H1 nf ef s1 dd H2 ndd edd s2
  have s12 := s1.trans s2
  walk_at "gg"
  refine g_seqT ?_
  walk_at "gg"
  rename_i b2 H3 n3 e3 s3 b3 H4 n4 e4 s4 b4 H5 n5 e5 s5
  have s25 := s3.trans (s4.trans s5)
  refine g_addTn (s25 _ _ (s12 _ _ efa)) e5 (by rw [hvl]; show _ + 1 ≤ 16777216; omega) (by simp) fun rl H6 er s6 => ?_
  have s26 := s25.trans s6
  have s06 := s12.trans s26
  have tr : Tps H6 (vs ++ [.ref b3]) ((allFn P).map Fn1.data) := by
    unfold allFn
    rw [List.map_append]
    exact Tps.append (tfs.mono (Same.tk s06)) (.one (.tup (s6 _ _ (s5 _ _ e4)) (.cons (.str _) (.cons (.tup (s6 _ _ (s5 _ _ (s4 _ _ e3))) .nil) (.one (tas.mono (Same.tk s06)))))))
  refine g_isT (.of er) ?_
  have fnf : H f = none := nf
  have fdd : H dd = none := s1.free ndd
  have nfd : f ≠ dd := ne_of_none ef ndd
  have ef6 := s26 _ _ (s2 _ _ ef)
  have edd6 := s26 _ _ edd
  have hrl : (vs ++ [V.ref b3]).length = (allFn P).length := by rw [tr.length, List.length_map]
  have htot := hF.total
  rw [← rowsG_bodies] at htot
  have hbl := P.bodies_len
  have hal : (allFn P).length = P.fs.length + 1 := allFn_len P
  have hnn : (allN P).length = P.fs.length + 1 := by rw [← allFn_names, List.length_map, hal]
  clear e3 e4 e5 n3 n4 n5 s3 s4 s5 s25 s26 ef edd s1 s2 nf ndd
  refine for_T (xs := vs ++ [.ref b3]) (fun k σ H' => ∃ (x3 x4 x5 x6 x7 x8 : Option V) (l : Addr) (gs : List V), σ = [some (.ref pa), some (.ref l), some (.ref dd), x3, x4, x5, x6, x7, x8] ∧ H' l = some (.lst gs) ∧ H l = none ∧ GdsAt (fun b => H b = none ∧ b ≠ dd) H' gs (bodyGds (P.rowsG.take k) 0) ∧
      DoorsAt H' dd P ((allN P).take k) ∧ H' rl = some (.tup (vs ++ [.ref b3])) ∧ Same H H' ∧ Tk H6 H' ∧ l ≠ dd)
    (fun k σ H' ⟨_, _, _, _, _, _, _, _, _, _, _, _, _, e, _⟩ => e) ⟨_, _, _, _, _, _, f, [], rfl, ef6, fnf, .nil, ⟨[], edd6, Nat.zero_le _, fun f hf => by rw [List.take_zero] at hf; cases hf⟩, er, s06, .refl _, nfd⟩ ?_ ?_
  · rintro k x σ H7 hx ⟨x3, x4, x5, x6, x7, x8, l, gs, rfl, el, fl, hgs, hdr, er7, s7, k7, nld⟩
    obtain ⟨d2, hd2, tx⟩ := (tr.mono k7).get hx
    rw [List.getElem?_map] at hd2
    obtain ⟨fn, hfn, rfl⟩ := Option.map_eq_some_iff.mp hd2
    have hq : P.rowsG[k]? = some (fn.things, fn.body) := by rw [rowsG_all, List.getElem?_map, hfn]; rfl
    obtain ⟨hfine, hts⟩ := rowsG_fine hF _ (List.mem_of_getElem? hq)
    have hdoor := door_at hF hfn
    have hkn : (allN P)[k]? = some fn.name := by rw [← allFn_names, List.getElem?_map, hfn]; rfl
    obtain ⟨a7, b7, u7, rfl, ea7, eb7, tu7⟩ := tx.fn1
    have hglen : gs.length = sz ((P.rowsG.take k).map (·.2)) := by rw [Paired.length hgs, bodyGds_len]
    have hglen2 : gs.length = sz (P.bodies.take k) := by rw [hglen, List.map_take, rowsG_bodies]
    have hgle := sz_map_take (l := P.rowsG) k
    refine g_un3 ea7 ?_
    walk_at "gg"
    rename_i d H8 nd ed s8
    obtain ⟨kvs, edd7, hkvl, hkv⟩ := id hdr
    have ndd : d ≠ dd := (ne_of_none edd7 nd).symm
    have ndl : d ≠ l := (ne_of_none el nd).symm
    walk_at "gg"
    refine g_enumT ?_
    walk_at "gg"
    refine ⟨b7, _, rfl, .of (s8 _ _ eb7), ?_⟩
    refine for_things (Sg := fun a b => [some (.ref pa), some (.ref l), some (.ref dd), some (.str fn.name), some (.ref b7), some u7, some (.ref d), a, b]) (by have := hts; dsimp only at this; omega) (s8 _ _ eb7) ed x7 x8 rfl ?_ ?_
    · intro i x y4 y6 T H9 N hx9 eT k9 hN
      refine g_un2 eT ?_
      walk_at "gg"
      rename_i b H10 nb eb s10
      walk_at "gg"
      have hi9 := (List.getElem?_eq_some_iff.mp hx9).1
      refine g_setKn (k9.same s10) (by have := hts; dsimp only at this; omega) (m := .thing i) (.tup eb (.cons (.str _) (.one (.int _)))) fun H11 k11 c11 kk11 => ?_
      refine hN H11 _ _ ?_ (Chg.trans (.same s10) c11)
      rw [ldef_thKn hx9]
      exact k11
    · intro y4 y6 H9 k9 c9
      have hd7 : H7 d = none := nd
      have c79 : Chg d H7 H9 := Chg.trans (.same s8) c9
      have s79 : Same H7 H9 := fun b o e => c79 b o (ne_of_none e hd7) e
      have el9 := s79 _ _ el
      have eb9 := s79 _ _ eb7
      have dr9 := hdr.mono (fun o e => s79 _ _ e) (Same.tk s79)
      walk_at "gg"
      rename_i td H10 ntd etd s10
      rw [List.length_map] at etd
      walk_at "gg"
      have etd' : H10 td = some (.tup [.int ((P.door fn.name).1 : Nat), .int ((P.door fn.name).2 : Nat)]) := by rw [hdoor, etd, hglen2]
      refine g_setDoor (dr9.mono (fun o e => s10 _ _ e) (Same.tk s10)) (by rw [List.length_take]; omega) (f := fn.name) etd' fun H11 d11 c11 k11 => ?_
      have s710 := s79.trans s10
      have el11 := c11 _ _ nld (s710 _ _ el)
      walk_at "gg"
      have hpz : fn.body.size ≤ 60 := hfine.size
      have hpd : fn.body.deep ≤ 12 := hfine.deep
      have hts4 : fn.things.length ≤ 4 := hts
      have k711 : Tk H7 H11 := (Same.tk s710).trans k11
      have kn11 : KnowAt H11 d (thKn fn.things 0 noKn) fn.things.length := k9.mono (fun kvs e => c11 _ _ ndd (s10 _ _ e)) ((Same.tk s10).trans k11) (Nat.le_refl _)
      refine ⟨u7, fn.body, gs.length, d, thKn fn.things 0 noKn, fn.things.length, P.names, fn.things, rfl, tu7.mono k711, hfine.good, hpz, ⟨hfine.ok, fun x hx => thKn_new hx⟩, kn11, by omega, hpd, fun l2 us H12 nl2 el2 hg12 s12 => ?_⟩
      have hul : us.length ≤ 60 := by rw [Paired.length hg12, Part.gds_len]; exact hpz
      refine g_addL (s12 _ _ el11) el2 (by show _ ≤ 16777216; omega) fun l3 H13 nl3 el3 s13 => ?_
      walk_at "gg"
      have c711 : Chg dd H7 H11 := Chg.trans (.same s710) c11
      have s011 : Same H H11 := Same.chg (s7.trans s710) fdd c11
      have s013 := s011.trans (s12.trans s13)
      have s1113 := s12.trans s13
      have fl3 : H l3 = none := s011.free (s12.free nl3)
      have nl3d : l3 ≠ dd := by
        obtain ⟨kvs', e', _⟩ := d11
        exact (ne_of_none (s12 _ _ e') nl3).symm
      refine ⟨_, _, _, _, _, _, l3, _, rfl, el3, fl3, ?_, ?_, s1113 _ _ (k11 _ _ (s710 _ _ er7)), s013, k7.trans (k711.trans (Same.tk s1113)), nl3d⟩
      · rw [bodyGds_take hq, Nat.zero_add, ← hglen]
        refine paired_append ?_ ?_
        · exact hgs.mono (fun b o ob e => s1113 b o (c11 b o ob.2 (s710 b o e))) (k711.trans (Same.tk s1113)) fun _ z => z
        · refine (hg12.same s13).mono (fun _ _ _ e => e) (.refl _) fun b ob => ⟨s011.free ob, fun z => ?_⟩
          obtain ⟨kvs', e', _⟩ := d11
          rw [z, e'] at ob
          cases ob
      · rw [List.take_add_one, hkn]
        exact d11.mono (fun o e => s1113 _ _ e) (Same.tk s1113)
  · rintro σ H7 ⟨x3, x4, x5, x6, x7, x8, l, gs, rfl, el, fl, hgs, hdr, er7, s7, k7, nld⟩
    have hrg : P.rowsG.length = (allFn P).length := by rw [rowsG_all, List.length_map]
    rw [hrl, ← hrg, List.take_length] at hgs
    rw [hrl, hal, ← hnn, List.take_length] at hdr
    walk_at "gg"
    rename_i rl2 H8 n8 e8 s8
    exact q rl2 l dd gs H8 (s7.free n8) fl fdd e8 (s8 _ _ el) ((hgs.same s8).mono (fun _ _ _ e => e) (.refl _) fun _ z => z.1) (hdr.mono (fun o e => s8 _ _ e) (Same.tk s8)) (s7.trans s8)

/-! ### nodes: what is seen at a place; the law's own table -/
def seenN (g : Gd) (rows : List NRow) (cl : Bool) (p : Int) (ts : List Int) : Int × List NRow :=
  match g.named with
  | none => nodeN rows cl (p, ts)
  | some (.thing k) => ((ts[k]?).getD 0, rows)
  | some (.row a) => nodeN rows cl (((a : Nat) : Int), ts)
def seenOk (g : Gd) (ts : List Int) : Prop := ∀ k, g.named = some (.thing k) → k < ts.length
structure LT where
  (t lk dn : Addr)
structure LTabAt (w : World) (H : Hp) (A : LT) (rows : List NRow) (cl : Bool) : Prop where
  ob : H A.t = some (.lst [.ref A.lk, .ref A.dn, .bl cl])
  kept : ∃ as, H A.lk = some (.lst (as.map V.ref)) ∧ Paired (RowAt H) as rows ∧ NTab w H A.dn (ents as rows 0)
  ne : A.lk ≠ A.dn ∧ A.t ≠ A.lk ∧ A.t ≠ A.dn
section
variable {K : PySem.W.Frag} {w : World} {O : Addr → Prop} {H H' : Hp} {A : NA} {P : Prog} {rows : List NRow} {cl : Bool} {B : LT} {M : List Addr}
theorem LTabAt.mono (h : LTabAt w H B rows cl) (hb : ∀ b o, (b = B.t ∨ b = B.lk ∨ b = B.dn) → H b = some o → H' b = some o) (k : Tk H H') : LTabAt w H' B rows cl := by
  obtain ⟨ob, ⟨as, e1, e2, e3⟩, ne⟩ := h
  refine ⟨hb _ _ (.inl rfl) ob, ⟨as, hb _ _ (.inr (.inl rfl)) e1, rowsAt_mono k e2, ?_, fun x hx => (e3.keys x hx).mono k⟩, ne⟩
  rcases e3.at_ with e | ⟨e0, e⟩
  · exact .inl (hb _ _ (.inr (.inr rfl)) e)
  · exact .inr ⟨e0, hb _ _ (.inr (.inr rfl)) e⟩
theorem LTabAt.same (h : LTabAt w H B rows cl) (s : Same H H') : LTabAt w H' B rows cl := h.mono (fun b o _ e => s b o e) (Same.tk s)
theorem LTabAt.but (h : LTabAt w H B rows cl) (b : NBut M H H') (k : Tk H H') (hM : ∀ m ∈ M, m ≠ B.t ∧ m ≠ B.lk ∧ m ≠ B.dn) : LTabAt w H' B rows cl :=
  h.mono (fun c o hc e => b c o (fun z => by
    obtain ⟨h2, h3, h4⟩ := hM c z
    rcases hc with hc | hc | hc
    · exact h2 hc
    · exact h3 hc
    · exact h4 hc) e) k
def spLNode (w : World) : Sp := fun vs H Q _ => ∃ (B : LT) (rows : List NRow) (cl : Bool) (p : Int) (ts : List Int) (t : Addr), vs = [.ref B.t, .int p, .ref t] ∧ LTabAt w H B rows cl ∧ H t = some (.tup (ts.map V.int)) ∧ rows.length < 16000000 ∧
  ∀ H', LTabAt w H' B (nodeN rows cl (p, ts)).2 cl → NBut [B.lk, B.dn] H H' → Tk H H' → Q (.int (nodeN rows cl (p, ts)).1) H'
theorem pure_lnode : PureOk 3 (spLNode w) (t_law_node K w) 4 := by
  refine ⟨fun vs H Q E ⟨_, _, _, _, _, _, e, _⟩ => by rw [e]; rfl, ?_⟩
  rintro vs H Q E ⟨B, rows, cl, p, ts, t, rfl, hN, et, hl, q⟩
  show t_law_node K w _ [some (.ref B.t), some (.int p), some (.ref t), none] H
  unfold t_law_node
  walk_at "gg"
  rename_i a H1 na ea s1
  have hN1 := hN.same s1
  have ra : RowAt H1 a (p, ts) := ⟨t, ea, s1 _ _ et⟩
  obtain ⟨ob, ⟨as, e1, e2, e3⟩, ne⟩ := id hN1
  have hal := Paired.length e2
  have hv := valN_ents (i := 0) (r := (p, ts)) hal
  have hel := ents_len (i := 0) hal
  have inN : ∀ {Q' : VK}, Q' (.bl (!(valN (ents as rows 0) (p, ts)).isSome)) H1 → rInGN K w true (.ref a) (.ref B.dn) H1 Q' := fun q => .inr ⟨a, B.dn, (p, ts), _, rfl, rfl, ra, e3, q⟩
  have getN : ∀ {H2 : Hp} {xs : List NEnt} {v : V} {Q' : VK}, RowAt H2 a (p, ts) → NTab w H2 B.dn xs → valN xs (p, ts) = some v → Q' v H2 → rIxG K w (.ref B.dn) (.ref a) H2 Q' ∨ rGetN w (.ref B.dn) (.ref a) H2 Q' := fun h1 h2 h3 q => .inr ⟨a, B.dn, (p, ts), _, _, rfl, rfl, h1, h2, h3, q⟩
  have fld : ∀ {H2 : Hp} {i : Int} {v : V} {Q' : VK}, H2 B.t = some (.lst [.ref B.lk, .ref B.dn, .bl cl]) → 0 ≤ i → [V.ref B.lk, .ref B.dn, .bl cl][i.toNat]? = some v → Q' v H2 → rIxG K w (.ref B.t) (.int i) H2 Q' ∨ rGetN w (.ref B.t) (.int i) H2 Q' := fun e h0 hi q => .inl (g_ixL (.of e) (atI_of h0 hi) q)
  cases hix : rowIx rows (p, ts) with
  | some i =>
    have hnode : nodeN rows cl (p, ts) = (((i : Nat) : Int), rows) := by unfold nodeN; rw [hix]
    rw [hix] at hv
    have hv' : valN (ents as rows 0) (p, ts) = some (.int (i : Nat)) := by rw [hv]; show some (V.int ((0 + i : Nat) : Int)) = _; rw [Nat.zero_add]
    rw [hnode] at q
    refine g_ixN ?_
    walk_at "gg"
    refine fld ob (by decide) rfl ?_
    refine inN ?_
    rw [hv']
    refine g_bl ?_
    refine g_F rfl ?_
    refine g_F rfl ?_
    walk_at "gg"
    refine g_ixN ?_
    walk_at "gg"
    refine fld ob (by decide) rfl ?_
    refine inN ?_
    rw [hv']
    refine g_bl ?_
    refine g_F rfl ?_
    walk_at "gg"
    refine g_ixN ?_
    refine g_ixN ?_
    walk_at "gg"
    refine fld ob (by decide) rfl ?_
    walk_at "gg"
    refine getN ra e3 hv' ?_
    exact q H1 hN1 (NBut.same s1) (Same.tk s1)
  | none =>
    rw [hix] at hv
    have hv' : valN (ents as rows 0) (p, ts) = none := hv
    refine g_ixN ?_
    walk_at "gg"
    refine fld ob (by decide) rfl ?_
    refine inN ?_
    rw [hv']
    refine g_bl ?_
    refine g_T rfl ?_
    walk_at "gg"
    refine g_ixN ?_
    walk_at "gg"
    refine fld ob (by decide) rfl ?_
    refine g_trubl ?_
    cases cl with
    | true =>
      have hnode : nodeN rows true (p, ts) = (-1, rows) := by unfold nodeN; rw [hix]; rfl
      rw [hnode] at q
      refine g_T rfl ?_
      walk_at "gg"
      exact q H1 hN1 (NBut.same s1) (Same.tk s1)
    | false =>
      have hnode : nodeN rows false (p, ts) = (((rows.length : Nat) : Int), rows ++ [(p, ts)]) := by unfold nodeN; rw [hix]; rfl
      rw [hnode] at q
      refine g_F rfl ?_
      walk_at "gg"
      refine g_ixN ?_
      walk_at "gg"
      refine fld ob (by decide) rfl ?_
      refine inN ?_
      rw [hv']
      refine g_bl ?_
      refine g_T rfl ?_
      walk_at "gg"
      refine g_ixN ?_
      walk_at "gg"
      refine fld ob (by decide) rfl ?_
      walk_at "gg"
      rw [show (as.map V.ref).length = rows.length from by rw [List.length_map, hal]]
      refine g_ixN ?_
      walk_at "gg"
      refine fld ob (by decide) rfl ?_
      walk_at "gg"
      refine .inr ⟨a, B.dn, (p, ts), _, rfl, rfl, ra, e3, hv', by rw [hel]; show _ < 16777216; omega, fun H2 e2' c2 => ?_⟩
      obtain ⟨n1, n2, n3⟩ := ne
      have k2 : Tk H1 H2 := c2.tk fun xs e => by
        rcases e3.at_ with e' | ⟨_, e'⟩ <;> rw [e] at e' <;> cases e'
      have ob2 := c2 _ _ n3 ob
      have lk2 := c2 _ _ n1 e1
      walk_at "gg"
      refine g_ixN ?_
      walk_at "gg"
      refine fld ob2 (by decide) rfl ?_
      walk_at "gg"
      refine g_append lk2 (by rw [List.length_map, hal]; show _ < 16777216; omega) fun H3 e4 c3 => ?_
      have k3 : Tk H2 H3 := c3.tkl lk2
      have ob3 := c3 _ _ n2 ob2
      have ra3 := (ra.mono k2).mono k3
      have b13 : NBut [B.lk, B.dn] H1 H3 := (NBut.chg c2 (by simp)).trans (NBut.chg c3 (by simp))
      have t3 : NTab w H3 B.dn (ents (as ++ [a]) (rows ++ [(p, ts)]) 0) := by
        rw [ents_snoc hal, Nat.zero_add]
        refine ⟨.inl (c3 _ _ n1.symm e2'), fun x hx => ?_⟩
        rcases List.mem_append.mp hx with hx | hx
        · exact ((e3.keys x hx).mono k2).mono k3
        · rw [List.mem_singleton.mp hx]
          exact ra3
      have hv3 : valN (ents (as ++ [a]) (rows ++ [(p, ts)]) 0) (p, ts) = some (.int (rows.length : Nat)) := by
        rw [valN_ents (by rw [List.length_append, List.length_append, hal]; rfl), rowIx_new (rowIx_none.mp hix)]
        show some (V.int ((0 + rows.length : Nat) : Int)) = _
        rw [Nat.zero_add]
      walk_at "gg"
      refine g_ixN ?_
      refine g_ixN ?_
      walk_at "gg"
      refine fld ob3 (by decide) rfl ?_
      walk_at "gg"
      refine getN ra3 t3 hv3 ?_
      refine q H3 ⟨ob3, ⟨as ++ [a], ?_, ?_, t3⟩, n1, n2, n3⟩ ((NBut.same s1).trans b13) ((Same.tk s1).trans (k2.trans k3))
      · rw [e4, List.map_append]
        rfl
      · exact Paired.snoc (rowsAt_mono (k2.trans k3) e2) ra3
end

/-! ### nodes: seen, doors, parts, places within -/
theorem g_isNon {x : V} {b : Bool} {H : Hp} {Q : VK} (e : decide (x = .non) = b) (q : Q (.bl b) H) : rIsG false x .non H Q := .inl ⟨rfl, by rw [if_neg (by decide), e]; exact q⟩
section
variable {K : PySem.W.Frag} {w : World} {O : Addr → Prop} {H H' : Hp} {A : NA} {P : Prog} {rows : List NRow} {cl : Bool} {B : LT} {M : List Addr}
/-- what a name part names, as it stands on the heap -/
theorem nmData_inv {o : Option Nm} {v : V} (h : Tp H v (nmData o)) : (o = none ∧ v = .non) ∨ (∃ k a, o = some (.thing k) ∧ v = .ref a ∧ H a = some (.tup [.str "thing", .int (k : Nat)])) ∨ ∃ k a, o = some (.row k) ∧ v = .ref a ∧ H a = some (.tup [.str "row", .int (k : Nat)]) := by
  cases o with
  | none =>
    have h' : Tp H v .none := h
    cases h'
    exact .inl ⟨rfl, rfl⟩
  | some m =>
    cases m with
    | thing k =>
      have h' : Tp H v (.tuple [.str "thing", .int (k : Nat)]) := h
      obtain ⟨a, x, y, rfl, e, t1, t2⟩ := h'.two
      rw [t1.str_inv, t2.int_inv] at e
      exact .inr (.inl ⟨k, a, rfl, rfl, e⟩)
    | row k =>
      have h' : Tp H v (.tuple [.str "row", .int (k : Nat)]) := h
      obtain ⟨a, x, y, rfl, e, t1, t2⟩ := h'.two
      rw [t1.str_inv, t2.int_inv] at e
      exact .inr (.inr ⟨k, a, rfl, rfl, e⟩)
def spSeen (K : PySem.W.Frag) (w : World) : Sp := fun vs H Q _ => ∃ (O : Addr → Prop) (A : NA) (P : Prog) (rows : List NRow) (cl : Bool) (p : Nat) (ts : List Int) (t : Addr) (g : Gd), vs = [.ref A.x, .int (p : Nat), .ref t] ∧ NodesAt K w O H A P rows cl ∧ H t = some (.tup (ts.map V.int)) ∧ P.gds[p]? = some g ∧ seenOk g ts ∧ rows.length < 16000000 ∧
  ∀ H', NodesAt K w O H' A P (seenN g rows cl (p : Nat) ts).2 cl → NBut [A.lk, A.dn] H H' → Tk H H' → Q (.int (seenN g rows cl (p : Nat) ts).1) H'
theorem pure_seen (R : NodesK K) : PureOk 3 (spSeen K w) (t_Nodes_seen K w (spNode K w)) 4 := by
  refine ⟨fun vs H Q E ⟨_, _, _, _, _, _, _, _, _, e, _⟩ => by rw [e]; rfl, ?_⟩
  rintro vs H Q E ⟨O, A, P, rows, cl, p, ts, t, g, rfl, hN, et, hg, hok, hl, q⟩
  show t_Nodes_seen K w _ _ [some (.ref A.x), some (.int (p : Nat)), some (.ref t), none] H
  unfold t_Nodes_seen
  have ob := hN.ob
  obtain ⟨us, v, eg, hv, a, l, u, nv, rfl, ea, tu, ol, el, tn⟩ := hN.gd hg
  walk_at "gg"
  refine g_fldr ob R.c R.ground rfl ?_
  walk_at "gg"
  refine g_ixL (.of eg) (atI_nat hv) ?_
  walk_at "gg"
  rcases nmData_inv tn with ⟨hn, rfl⟩ | ⟨k, b, hn, rfl, eb⟩ | ⟨k, b, hn, rfl, eb⟩
  · have hs : seenN g rows cl (p : Nat) ts = nodeN rows cl ((p : Nat), ts) := by unfold seenN; rw [hn]
    rw [hs] at q
    refine g_isNon (b := true) rfl ?_
    refine g_bl ?_
    refine g_T rfl ?_
    walk_at "gg"
    exact ⟨O, A, P, rows, cl, (p : Nat), ts, t, rfl, hN, et, hl, q⟩
  · have hs : seenN g rows cl (p : Nat) ts = ((ts[k]?).getD 0, rows) := by unfold seenN; rw [hn]
    rw [hs] at q
    refine g_isNon (b := false) rfl ?_
    refine g_bl ?_
    refine g_F rfl ?_
    walk_at "gg"
    have hk := hok k hn
    refine g_ixT (.of et) (atI_nat (by rw [List.getElem?_map, List.getElem?_eq_getElem hk]; rfl)) ?_
    rw [List.getElem?_eq_getElem hk] at q
    exact q H hN NBut.refl (.refl _)
  · have hs : seenN g rows cl (p : Nat) ts = nodeN rows cl (((k : Nat) : Int), ts) := by unfold seenN; rw [hn]
    rw [hs] at q
    refine g_isNon (b := false) rfl ?_
    refine g_bl ?_
    refine g_F rfl ?_
    walk_at "gg"
    exact ⟨O, A, P, rows, cl, (k : Nat), ts, t, rfl, hN, et, hl, q⟩
/-- the law's grounds -/
structure GrAt (O : Addr → Prop) (H : Hp) (gl : Addr) (P : Prog) : Prop where
  ex : ∃ (g dd : Addr) (us : List V), H gl = some (.lst [.ref g, .ref dd]) ∧ H g = some (.lst us) ∧ GdsAt O H us P.gds ∧ DoorsAt H dd P (allN P) ∧ O gl ∧ O g ∧ O dd
theorem GrAt.mono {gl : Addr} (h : GrAt O H gl P) (ho : ∀ b o, O b → H b = some o → H' b = some o) (k : Tk H H') : GrAt O H' gl P := by
  obtain ⟨g, dd, us, e1, e2, h1, h2, o1, o2, o3⟩ := h.ex
  exact ⟨g, dd, us, ho _ _ o1 e1, ho _ _ o2 e2, h1.mono ho k fun _ z => z, h2.mono (fun o e => ho _ _ o3 e) k, o1, o2, o3⟩
def spLSeen (w : World) : Sp := fun vs H Q _ => ∃ (O : Addr → Prop) (gl : Addr) (P : Prog) (B : LT) (rows : List NRow) (cl : Bool) (p : Nat) (ts : List Int) (t : Addr) (g : Gd), vs = [.ref gl, .ref B.t, .int (p : Nat), .ref t] ∧ GrAt O H gl P ∧ LTabAt w H B rows cl ∧ H t = some (.tup (ts.map V.int)) ∧ P.gds[p]? = some g ∧ seenOk g ts ∧ rows.length < 16000000 ∧
  ∀ H', LTabAt w H' B (seenN g rows cl (p : Nat) ts).2 cl → NBut [B.lk, B.dn] H H' → Tk H H' → Q (.int (seenN g rows cl (p : Nat) ts).1) H'
theorem pure_lseen : PureOk 4 (spLSeen w) (t_law_seen K w (spLNode w)) 5 := by
  refine ⟨fun vs H Q E ⟨_, _, _, _, _, _, _, _, _, _, e, _⟩ => by rw [e]; rfl, ?_⟩
  rintro vs H Q E ⟨O, gl, P, B, rows, cl, p, ts, t, g, rfl, hG, hN, et, hg, hok, hl, q⟩
  show t_law_seen K w _ _ [some (.ref gl), some (.ref B.t), some (.int (p : Nat)), some (.ref t), none] H
  unfold t_law_seen
  obtain ⟨g0, dd, us, e1, e2, h1, h2, o1, o2, o3⟩ := hG.ex
  obtain ⟨v, hv, a, l, u, nv, rfl, ea, tu, ol, el, tn⟩ := paired_at h1 hg
  walk_at "gg"
  refine g_ixL (.of e2) (atI_nat hv) ?_
  walk_at "gg"
  rcases nmData_inv tn with ⟨hn, rfl⟩ | ⟨k, b, hn, rfl, eb⟩ | ⟨k, b, hn, rfl, eb⟩
  · have hs : seenN g rows cl (p : Nat) ts = nodeN rows cl ((p : Nat), ts) := by unfold seenN; rw [hn]
    rw [hs] at q
    refine g_isNon (b := true) rfl ?_
    refine g_bl ?_
    refine g_T rfl ?_
    walk_at "gg"
    exact ⟨B, rows, cl, (p : Nat), ts, t, rfl, hN, et, hl, q⟩
  · have hs : seenN g rows cl (p : Nat) ts = ((ts[k]?).getD 0, rows) := by unfold seenN; rw [hn]
    rw [hs] at q
    refine g_isNon (b := false) rfl ?_
    refine g_bl ?_
    refine g_F rfl ?_
    walk_at "gg"
    have hk := hok k hn
    refine g_ixT (.of et) (atI_nat (by rw [List.getElem?_map, List.getElem?_eq_getElem hk]; rfl)) ?_
    rw [List.getElem?_eq_getElem hk] at q
    exact q H hN NBut.refl (.refl _)
  · have hs : seenN g rows cl (p : Nat) ts = nodeN rows cl (((k : Nat) : Int), ts) := by unfold seenN; rw [hn]
    rw [hs] at q
    refine g_isNon (b := false) rfl ?_
    refine g_bl ?_
    refine g_F rfl ?_
    walk_at "gg"
    exact ⟨B, rows, cl, (k : Nat), ts, t, rfl, hN, et, hl, q⟩
def spNPart (K : PySem.W.Frag) (w : World) : Sp := fun vs H Q _ => ∃ (O : Addr → Prop) (A : NA) (P : Prog) (rows : List NRow) (cl : Bool) (p : Nat) (g : Gd), vs = [.ref A.x, .int (p : Nat)] ∧ NodesAt K w O H A P rows cl ∧ P.gds[p]? = some g ∧ ∀ u, Tp H u g.part.data → Q u H
theorem pure_npart (R : NodesK K) : PureOk 2 (spNPart K w) (t_Nodes_part K w) 2 := by
  refine ⟨fun vs H Q E ⟨_, _, _, _, _, _, _, e, _⟩ => by rw [e]; rfl, ?_⟩
  rintro vs H Q E ⟨O, A, P, rows, cl, p, g, rfl, hN, hg, q⟩
  show t_Nodes_part K w _ [some (.ref A.x), some (.int (p : Nat))] H
  unfold t_Nodes_part
  have ob := hN.ob
  obtain ⟨us, v, eg, hv, a, l, u, nv, rfl, ea, tu, ol, el, tn⟩ := hN.gd hg
  walk_at "gg"
  refine g_fldr ob R.c R.ground rfl ?_
  walk_at "gg"
  refine g_ixL (.of eg) (atI_nat hv) ?_
  walk_at "gg"
  exact q u tu
def spNInner (K : PySem.W.Frag) (w : World) : Sp := fun vs H Q _ => ∃ (O : Addr → Prop) (A : NA) (P : Prog) (rows : List NRow) (cl : Bool) (p : Nat) (g : Gd), vs = [.ref A.x, .int (p : Nat)] ∧ NodesAt K w O H A P rows cl ∧ P.gds[p]? = some g ∧ ∀ l H', H l = none → H' l = some (.lst (nInts g.inner)) → Same H H' → Q (.ref l) H'
theorem pure_ninner (R : NodesK K) : PureOk 2 (spNInner K w) (t_Nodes_inner K w) 2 := by
  refine ⟨fun vs H Q E ⟨_, _, _, _, _, _, _, e, _⟩ => by rw [e]; rfl, ?_⟩
  rintro vs H Q E ⟨O, A, P, rows, cl, p, g, rfl, hN, hg, q⟩
  show t_Nodes_inner K w _ [some (.ref A.x), some (.int (p : Nat))] H
  unfold t_Nodes_inner
  have ob := hN.ob
  obtain ⟨us, v, eg, hv, a, l, u, nv, rfl, ea, tu, ol, el, tn⟩ := hN.gd hg
  walk_at "gg"
  refine g_fldr ob R.c R.ground rfl ?_
  walk_at "gg"
  refine g_ixL (.of eg) (atI_nat hv) ?_
  walk_at "gg"
  rename_i l2 H2 n2 e2 s2
  exact q l2 H2 n2 e2 s2
def spDoor (K : PySem.W.Frag) (w : World) : Sp := fun vs H Q _ => ∃ (O : Addr → Prop) (A : NA) (P : Prog) (rows : List NRow) (cl : Bool) (f : Str), vs = [.ref A.x, .str f] ∧ NodesAt K w O H A P rows cl ∧ f ∈ allN P ∧ ∀ a, H a = some (.tup [.int ((P.door f).1 : Nat), .int ((P.door f).2 : Nat)]) → Q (.ref a) H
theorem pure_door (R : NodesK K) : PureOk 2 (spDoor K w) (t_Nodes_door K w) 2 := by
  refine ⟨fun vs H Q E ⟨_, _, _, _, _, _, e, _⟩ => by rw [e]; rfl, ?_⟩
  rintro vs H Q E ⟨O, A, P, rows, cl, f, rfl, hN, hf, q⟩
  show t_Nodes_door K w _ [some (.ref A.x), some (.str f)] H
  unfold t_Nodes_door
  have ob := hN.ob
  obtain ⟨kvs, ed, hkl, hk⟩ := hN.drs
  obtain ⟨a, h1, h2⟩ := hk f hf
  obtain ⟨b, h3, h4⟩ := hk "" (by unfold allN; simp)
  walk_at "gg"
  refine g_fldr ob R.c R.doors rfl ?_
  refine g_isd ed ?_
  walk_at "gg"
  refine g_fldr ob R.c R.doors rfl ?_
  walk_at "gg"
  refine g_ixD ed (k := .inr "") rfl h3 ?_
  refine g_dget ed (k := .inr f) rfl ?_
  rw [h1]
  exact q a h2
end

/-! ### nodes: places, what stands there -/
theorem rows_named {Pm : Nm → Prop} : ∀ {r : Rows} {i : Nat} {kn : Known}, (∀ x m, kn x = some m → Pm m) → (∀ j, i ≤ j → j < i + r.size → Pm (.row j)) → ∀ x m, r.knows i kn x = some m → Pm m
  | .nil, i, kn, h, _, x, m, hx => h x m hx
  | .cons y a r, i, kn, h, hr, x, m, hx => by
    have hsz : (Rows.cons y a r).size = a.size + r.size := rfl
    have hpos := a.size_pos
    refine rows_named (r := r) (i := i + a.size) (kn := kput kn y (.row i)) (fun z m' hz => ?_) (fun j h1 h2 => hr j (by omega) (by omega)) x m hx
    unfold kput at hz
    split at hz
    · cases hz
      exact hr i (Nat.le_refl _) (by omega)
    · exact h z m' hz
theorem gds_named {Pm : Nm → Prop} : ∀ (n : Nat) (p : Part) (i : Nat) (kn : Known), p.size ≤ n → (∀ x m, kn x = some m → Pm m) → (∀ j, i ≤ j → j < i + p.size → Pm (.row j)) → ∀ g ∈ p.gds i kn, ∀ m, g.named = some m → Pm m := by
  intro n
  induction n with
  | zero => intro p i kn h; have := p.size_pos; omega
  | succ n ih =>
    intro p i kn hn hk hr g hg m hm
    rw [gds_eq] at hg
    have hsk := p.sz_kids
    have hkin : ∀ x m, p.inKn i kn x = some m → Pm m := by
      intro x m hx
      cases p with
      | letp r a =>
        have hsz : (Part.letp r a).size = 1 + (r.size + a.size) := rfl
        exact rows_named (r := r) (i := i + 1) (kn := kn) hk (fun j h1 h2 => hr j (by omega) (by omega)) x m hx
      | _ => exact hk x m hx
    rcases List.mem_cons.mp hg with rfl | hg
    · cases p with
      | name x => exact hk x m hm
      | _ => cases hm
    · have : ∀ (l : List Part) (j : Nat), sz l ≤ n → i + 1 ≤ j → j + sz l ≤ i + p.size → ∀ g ∈ kidsGds l j (p.inKn i kn), ∀ m, g.named = some m → Pm m := by
        intro l
        induction l with
        | nil => intro j _ _ _ g hg; cases hg
        | cons c l il =>
          intro j h1 h2 h3 g hg m hm
          have hsz : sz (c :: l) = c.size + sz l := rfl
          rcases List.mem_append.mp (show g ∈ c.gds j _ ++ kidsGds l (j + c.size) _ from hg) with hg | hg
          · exact ih c j _ (by omega) hkin (fun a h4 h5 => hr a (by omega) (by omega)) g hg m hm
          · exact il (j + c.size) (by omega) (by omega) (by omega) g hg m hm
      exact this p.kids (i + 1) (by omega) (Nat.le_refl _) (by omega) g hg m hm
theorem thKn_named {Pm : Nm → Prop} : ∀ {l : List Str} {k : Nat} {kn : Known}, (∀ x m, kn x = some m → Pm m) → (∀ j, k ≤ j → j < k + l.length → Pm (.thing j)) → ∀ x m, thKn l k kn x = some m → Pm m
  | [], k, kn, h, _, x, m, hx => h x m hx
  | y :: l, k, kn, h, hr, x, m, hx => by
    refine thKn_named (l := l) (k := k + 1) (kn := kput kn y (.thing k)) (fun z m' hz => ?_) (fun j h1 h2 => hr j (by omega) (by rw [List.length_cons]; omega)) x m hx
    unfold kput at hz
    split at hz
    · cases hz
      exact hr k (Nat.le_refl _) (by rw [List.length_cons]; omega)
    · exact h z m' hz
/-- in which function's body a place stands -/
theorem body_at : ∀ (l : List Fn1) (i p : Nat), p < sz (l.map (·.body)) → ∃ k fn, l[k]? = some fn ∧ sz ((l.take k).map (·.body)) ≤ p ∧ p < sz ((l.take k).map (·.body)) + fn.body.size ∧
    (bodyGds (l.map fun f => (f.things, f.body)) i)[p]? = (fn.body.gds (i + sz ((l.take k).map (·.body))) (thKn fn.things 0 noKn))[p - sz ((l.take k).map (·.body))]? ∧ (sizesL l)[p]? = some fn.things.length
  | [], i, p, h => absurd h (Nat.not_lt_zero _)
  | f :: l, i, p, h => by
    have hsz : sz ((f :: l).map (·.body)) = f.body.size + sz (l.map (·.body)) := rfl
    by_cases hp : p < f.body.size
    · refine ⟨0, f, rfl, Nat.zero_le _, by show p < 0 + _; omega, ?_, ?_⟩
      · show (f.body.gds i _ ++ bodyGds (l.map _) _)[p]? = (f.body.gds (i + 0) _)[p - 0]?
        rw [List.getElem?_append_left (by rw [Part.gds_len]; exact hp)]
        rfl
      · show (List.replicate f.body.size f.things.length ++ sizesL l)[p]? = _
        rw [List.getElem?_append_left (by rw [List.length_replicate]; exact hp), List.getElem?_replicate, if_pos hp]
    · obtain ⟨k, fn, h1, h2, h3, h4, h5⟩ := body_at l (i + f.body.size) (p - f.body.size) (by omega)
      have hb : sz (((f :: l).take (k + 1)).map (·.body)) = f.body.size + sz ((l.take k).map (·.body)) := rfl
      refine ⟨k + 1, fn, h1, by omega, by omega, ?_, ?_⟩
      · show (f.body.gds i _ ++ bodyGds (l.map _) _)[p]? = _
        rw [List.getElem?_append_right (by rw [Part.gds_len]; omega), Part.gds_len, h4, hb, Nat.add_assoc, Nat.sub_sub]
      · show (List.replicate f.body.size f.things.length ++ sizesL l)[p]? = _
        rw [List.getElem?_append_right (by rw [List.length_replicate]; omega), List.length_replicate]
        exact h5
theorem place_at {P : Prog} {p : Nat} (h : p < (sizesL (allFn P)).length) : ∃ k fn, (allFn P)[k]? = some fn ∧ sz (P.bodies.take k) ≤ p ∧ p < sz (P.bodies.take k) + fn.body.size ∧
    P.gds[p]? = (fn.body.gds (sz (P.bodies.take k)) (thKn fn.things 0 noKn))[p - sz (P.bodies.take k)]? ∧ (sizesL (allFn P))[p]? = some fn.things.length := by
  obtain ⟨k, fn, h1, h2, h3, h4, h5⟩ := body_at (allFn P) 0 p (by rw [← sizesL_len]; exact h)
  rw [List.map_take, allFn_bodies] at h2 h3 h4
  refine ⟨k, fn, h1, h2, h3, ?_, h5⟩
  unfold Prog.gds
  rw [rowsG_all, h4, Nat.zero_add]
theorem gds_length (P : Prog) : P.gds.length = (sizesL (allFn P)).length := by
  unfold Prog.gds
  rw [bodyGds_len, rowsG_bodies, sizesL_len, allFn_bodies]
theorem bodies_take_lt {P : Prog} {k : Nat} {fn : Fn1} (h : (allFn P)[k]? = some fn) : sz (P.bodies.take k) + fn.body.size ≤ P.gds.length := by
  have h1 : P.bodies[k]? = some fn.body := by rw [← allFn_bodies, List.getElem?_map, h]; rfl
  have h2 := sz_take_succ h1
  have h3 := sz_take_le (k + 1) P.bodies
  rw [gds_length, sizesL_len, allFn_bodies]
  omega
/-- what a place names stands there: a thing of its function, or a place of its body -/
theorem named_at {P : Prog} {p n : Nat} {g : Gd} (hg : P.gds[p]? = some g) (hn : (sizesL (allFn P))[p]? = some n) : (∀ k, g.named = some (.thing k) → k < n) ∧ ∀ a, g.named = some (.row a) → (sizesL (allFn P))[a]? = some n ∧ a < P.gds.length := by
  have hp : p < (sizesL (allFn P)).length := by rw [← gds_length]; exact (List.getElem?_eq_some_iff.mp hg).1
  obtain ⟨k, fn, h1, h2, h3, h4, h5⟩ := place_at hp
  rw [h5] at hn
  cases hn
  rw [h4] at hg
  have hbt := bodies_take_lt h1
  have hall : ∀ a, sz (P.bodies.take k) ≤ a → a < sz (P.bodies.take k) + fn.body.size → (sizesL (allFn P))[a]? = some fn.things.length := by
    intro a ha1 ha2
    have h6 : (sizesL (allFn P)) = sizesL ((allFn P).take k) ++ (List.replicate fn.body.size fn.things.length ++ sizesL ((allFn P).drop (k + 1))) := by
      conv => lhs; rw [← List.take_append_drop k (allFn P), sizesL_app]
      congr 1
      have : (allFn P).drop k = fn :: (allFn P).drop (k + 1) := by
        obtain ⟨hk, e⟩ := List.getElem?_eq_some_iff.mp h1
        rw [List.drop_eq_getElem_cons hk, e]
      rw [this]
      rfl
    have h7 : (sizesL ((allFn P).take k)).length = sz (P.bodies.take k) := by rw [sizesL_len, List.map_take, allFn_bodies]
    rw [h6, List.getElem?_append_right (by omega), h7, List.getElem?_append_left (by rw [List.length_replicate]; omega), List.getElem?_replicate, if_pos (by omega)]
  have key := gds_named (Pm := fun m => match m with | .thing j => j < fn.things.length | .row a => sz (P.bodies.take k) ≤ a ∧ a < sz (P.bodies.take k) + fn.body.size) fn.body.size fn.body (sz (P.bodies.take k)) (thKn fn.things 0 noKn) (Nat.le_refl _)
    (thKn_named (fun x m h => by cases h) (fun j h8 h9 => by show j < _; omega)) (fun j h8 h9 => ⟨h8, h9⟩) g (List.mem_of_getElem? hg)
  refine ⟨fun j hj => key _ hj, fun a ha => ?_⟩
  have := key _ ha
  exact ⟨hall a this.1 this.2, by have := this.2; omega⟩
theorem seen_ok {P : Prog} {p : Nat} {g : Gd} {ts : List Int} (hg : P.gds[p]? = some g) (hn : (sizesL (allFn P))[p]? = some ts.length) : seenOk g ts := (named_at hg hn).1

/-! ### numbers reckoned (as in step0, step2) -/
def K2.op : K2 → Bool
  | .give => false
  | .pair => false
  | _ => true
def reck : K2 → Int → Int → Int
  | .plus, m, n => m + n
  | .less, m, n => m - n
  | .times, m, n => m * n
  | _, m, n => if m < n then 1 else 0
theorem small_log {n : Int} (h : n.natAbs < 10 ^ 60) : n.natAbs.log2 < 200 := by
  by_cases h0 : n.natAbs = 0
  · rw [h0]; decide
  · rw [Nat.log2_lt h0]
    exact Nat.lt_trans h (by decide)
def spReck : Sp := fun vs H Q _ => ∃ (k : K2) (m n : Int), vs = [.str k.word, .int m, .int n] ∧ k.op = true ∧ m.natAbs < 10 ^ 60 ∧ n.natAbs < 10 ^ 60 ∧ Q (.int (reck k m n)) H
theorem pure_reck {K : PySem.W.Frag} {w : World} : PureOk 3 spReck (t_reckoned K w) 3 := by
  refine ⟨fun vs H Q E ⟨_, _, _, e, _⟩ => by rw [e]; rfl, ?_⟩
  rintro vs H Q E ⟨k, m, n, rfl, hk, hm, hn, q⟩
  show t_reckoned K w _ [some (.str k.word), some (.int m), some (.int n)] H
  unfold t_reckoned
  have l1 := small_log hm
  have l2 := small_log hn
  clear hm hn
  cases k with
  | give => cases hk
  | pair => cases hk
  | plus => walk_at "gg"; exact q
  | less => walk_at "gg"; exact q
  | times =>
    walk_at "gg"
    exact .inr ⟨m, n, rfl, rfl, by show _ + _ < 1000000; omega, q⟩
  | below =>
    walk_at "gg"
    have e : (if decide (m < n) = true then (1 : Int) else 0) = reck .below m n := by
      show _ = if m < n then (1 : Int) else 0
      by_cases h : m < n
      · rw [if_pos (decide_eq_true h), if_pos h]
      · rw [if_neg (by rw [decide_eq_false h]; decide), if_neg h]
    rw [e]
    exact q
def spSmall : Sp := fun vs H Q _ => ∃ (n : Int), vs = [.int n] ∧ Q (.bl (decide (n.natAbs < 10 ^ 60))) H
theorem pure_small {K : PySem.W.Frag} {w : World} : PureOk 1 spSmall (t_is_small K w) 1 := by
  refine ⟨fun vs H Q E ⟨_, e, _⟩ => by rw [e]; rfl, ?_⟩
  rintro vs H Q E ⟨n, rfl, q⟩
  show t_is_small K w _ [some (.int n)] H
  unfold t_is_small
  walk_at "gg"
  refine g_powI ⟨by decide, by decide, by decide⟩ ?_
  walk_at "gg"
  have e : decide ((n.natAbs : Int) < 10 ^ Int.toNat 60) = decide (n.natAbs < 10 ^ 60) := by
    refine decide_eq_decide.mpr ?_
    have : (10 : Int) ^ Int.toNat 60 = ((10 ^ 60 : Nat) : Int) := by rfl
    rw [this]
    exact Int.ofNat_lt
  rw [e]
  exact q

/-! ### what comes of a node: by numbers -/
inductive Wo
  | num (n : Int) | pair (a b : Int) | fn (f : Str) (ts : List Int)
def Wo.data : Wo → PyData
  | .num n => .tuple [.str "number", .int n]
  | .pair a b => .tuple [.str "pair", .int a, .int b]
  | .fn f ts => .tuple [.str "function", .str f, .tuple (ts.map .int)]
def Wo.word : Wo → Str
  | .num _ => "number"
  | .pair _ _ => "pair"
  | .fn _ _ => "function"
inductive An
  | need (i : Int) | call (i : Int) | worth (w : Wo) | fault (s : Str)
def An.data : An → PyData
  | .need i => .tuple [.str "need", .int i]
  | .call i => .tuple [.str "call", .int i]
  | .worth w => .tuple [.str "worth", w.data]
  | .fault s => .tuple [.str "fault", .str s]
def passN (i : Int) : List Wo → An
  | [] => .need i
  | w :: _ => .worth w
def callN (P : Prog) (rows : List NRow) (cl : Bool) (f : Str) (ts : List Int) : List Wo → An × List NRow
  | [] => (.call (nodeN rows cl (((P.door f).1 : Nat), ts)).1, (nodeN rows cl (((P.door f).1 : Nat), ts)).2)
  | w :: _ => (.worth w, rows)
def funN (P : Prog) (rows : List NRow) (cl : Bool) (f : Str) (ws : List Wo) : An × List NRow :=
  if 0 < (P.door f).2 then (.worth (.fn f []), rows) else callN P rows cl f [] ws
def seenP (P : Prog) (rows : List NRow) (cl : Bool) (p : Nat) (ts : List Int) : Int × List NRow :=
  match P.gds[p]? with
  | some g => seenN g rows cl (p : Nat) ts
  | none => (0, rows)
def giveN (P : Prog) (rows : List NRow) (cl : Bool) (i0 i1 : Nat) (ts : List Int) : List Wo → An × List NRow
  | [] => (.need (seenP P rows cl i0 ts).1, (seenP P rows cl i0 ts).2)
  | .fn f gv :: r => if (gv ++ [(seenP P rows cl i1 ts).1]).length < (P.door f).2 then (.worth (.fn f (gv ++ [(seenP P rows cl i1 ts).1])), (seenP P rows cl i1 ts).2)
      else callN P (seenP P rows cl i1 ts).2 cl f (gv ++ [(seenP P rows cl i1 ts).1]) r
  | _ :: _ => (.fault "function", rows)
def opN (P : Prog) (rows : List NRow) (cl : Bool) (k : K2) (i0 i1 : Nat) (ts : List Int) : List Wo → An × List NRow
  | [] => (.need (seenP P rows cl i0 ts).1, (seenP P rows cl i0 ts).2)
  | [.num _] => (.need (seenP P rows cl i1 ts).1, (seenP P rows cl i1 ts).2)
  | [_] => (.fault "number", rows)
  | .num a :: .num b :: _ => if (reck k a b).natAbs < 10 ^ 60 then (.worth (.num (reck k a b)), rows) else (.fault "great", rows)
  | _ => (.fault "number", rows)
def whenN (P : Prog) (rows : List NRow) (cl : Bool) (i0 i1 i2 : Nat) (ts : List Int) : List Wo → An × List NRow
  | [] => (.need (seenP P rows cl i0 ts).1, (seenP P rows cl i0 ts).2)
  | .num n :: r => (passN (seenP P rows cl (if n = 0 then i2 else i1) ts).1 r, (seenP P rows cl (if n = 0 then i2 else i1) ts).2)
  | _ :: _ => (.fault "number", rows)
def sideOf : K1 → Int → Int → Int
  | .left, a, _ => a
  | .right, _, b => b
def sideN (P : Prog) (rows : List NRow) (cl : Bool) (k : K1) (i0 : Nat) (ts : List Int) : List Wo → An × List NRow
  | [] => (.need (seenP P rows cl i0 ts).1, (seenP P rows cl i0 ts).2)
  | .pair a b :: r => (passN (sideOf k a b) r, rows)
  | _ :: _ => (.fault "pair", rows)
/-- what comes behind the first needs of the node (p, ts) -/
def behG (P : Prog) (rows : List NRow) (cl : Bool) (p : Nat) (ts : List Int) (ws : List Wo) (g : Gd) : An × List NRow :=
  match g.part with
  | .num n => (.worth (.num n), rows)
  | .name _ => (passN (seenP P rows cl p ts).1 ws, (seenP P rows cl p ts).2)
  | .fn f => funN P rows cl f ws
  | .one k _ => sideN P rows cl k (g.inner.getD 0 0) ts ws
  | .two .give _ _ => giveN P rows cl (g.inner.getD 0 0) (g.inner.getD 1 0) ts ws
  | .two .pair _ _ => (.worth (.pair (seenP P rows cl (g.inner.getD 0 0) ts).1 (seenP P (seenP P rows cl (g.inner.getD 0 0) ts).2 cl (g.inner.getD 1 0) ts).1), (seenP P (seenP P rows cl (g.inner.getD 0 0) ts).2 cl (g.inner.getD 1 0) ts).2)
  | .two k _ _ => opN P rows cl k (g.inner.getD 0 0) (g.inner.getD 1 0) ts ws
  | .whn _ _ _ => whenN P rows cl (g.inner.getD 0 0) (g.inner.getD 1 0) (g.inner.getD 2 0) ts ws
  | .letp r _ => (passN (seenP P rows cl (g.inner.getD r.parts.length 0) ts).1 ws, (seenP P rows cl (g.inner.getD r.parts.length 0) ts).2)
  | .shut _ => (.fault "number", rows)
def behN (P : Prog) (rows : List NRow) (cl : Bool) (p : Nat) (ts : List Int) (ws : List Wo) : An × List NRow :=
  match P.gds[p]? with
  | none => (.fault "number", rows)
  | some g => behG P rows cl p ts ws g
theorem behN_at {P : Prog} {rows : List NRow} {cl : Bool} {p : Nat} {ts : List Int} {ws : List Wo} {g : Gd} (h : P.gds[p]? = some g) : behN P rows cl p ts ws = behG P rows cl p ts ws g := by unfold behN; rw [h]
/-! worths on the heap -/
def WoOk (P : Prog) : Wo → Prop
  | .num n => n.natAbs < 10 ^ 60
  | .pair _ _ => True
  | .fn f ts => f ∈ allN P ∧ ts.length < (P.door f).2
theorem Tp.wo {H : Hp} {v : V} {w : Wo} (h : Tp H v w.data) : ∃ a xs, v = .ref a ∧ H a = some (.tup (.str w.word :: xs)) := by
  cases w with
  | num n =>
    obtain ⟨a, x, y, rfl, e, t1, t2⟩ := Tp.two (d := .str "number") (e := .int n) h
    rw [t1.str_inv] at e
    exact ⟨a, _, rfl, e⟩
  | pair c d =>
    obtain ⟨a, x, y, z, rfl, e, t1, t2, t3⟩ := Tp.three (d := .str "pair") (e := .int c) (f := .int d) h
    rw [t1.str_inv] at e
    exact ⟨a, _, rfl, e⟩
  | fn f ts =>
    obtain ⟨a, x, y, z, rfl, e, t1, t2, t3⟩ := Tp.three (d := .str "function") (e := .str f) (f := .tuple (ts.map .int)) h
    rw [t1.str_inv] at e
    exact ⟨a, _, rfl, e⟩
theorem Tp.wnum {H : Hp} {v : V} {n : Int} (h : Tp H v (Wo.num n).data) : ∃ a, v = .ref a ∧ H a = some (.tup [.str "number", .int n]) := by
  obtain ⟨a, x, y, rfl, e, t1, t2⟩ := Tp.two (d := .str "number") (e := .int n) h
  rw [t1.str_inv, t2.int_inv] at e
  exact ⟨a, rfl, e⟩
theorem Tp.wpair {H : Hp} {v : V} {c d : Int} (h : Tp H v (Wo.pair c d).data) : ∃ a, v = .ref a ∧ H a = some (.tup [.str "pair", .int c, .int d]) := by
  obtain ⟨a, x, y, z, rfl, e, t1, t2, t3⟩ := Tp.three (d := .str "pair") (e := .int c) (f := .int d) h
  rw [t1.str_inv, t2.int_inv, t3.int_inv] at e
  exact ⟨a, rfl, e⟩
theorem ints_inv {H : Hp} : ∀ {ns : List Int} {vs : List V}, Tps H vs (ns.map PyData.int) → vs = ns.map V.int
  | [], vs, h => h.nil_inv
  | n :: ns, vs, h => by
    obtain ⟨v, us, rfl, hv, hu⟩ := Tps.cons_inv (ds := ns.map PyData.int) h
    rw [hv.int_inv, ints_inv hu]
    rfl
theorem Tp.wfn {H : Hp} {v : V} {f : Str} {ts : List Int} (h : Tp H v (Wo.fn f ts).data) : ∃ a b, v = .ref a ∧ H a = some (.tup [.str "function", .str f, .ref b]) ∧ H b = some (.tup (ts.map V.int)) := by
  obtain ⟨a, x, y, z, rfl, e, t1, t2, t3⟩ := Tp.three (d := .str "function") (e := .str f) (f := .tuple (ts.map .int)) h
  obtain ⟨b, us, rfl, eb, tb⟩ := t3.tup_inv
  rw [t1.str_inv, t2.str_inv] at e
  rw [ints_inv tb] at eb
  exact ⟨a, b, rfl, e, eb⟩
abbrev Wos (H : Hp) (vs : List V) (ws : List Wo) : Prop := Tps H vs (ws.map Wo.data)
section
variable {K : PySem.W.Frag} {w : World} {H : Hp}
def spPassed : Sp := fun vs H Q _ => ∃ (i : Int) (l : Addr) (us : List V) (ws : List Wo), vs = [.int i, .ref l] ∧ H l = some (.lst us) ∧ Wos H us ws ∧ ∀ v H', Tp H' v (passN i ws).data → Same H H' → Q v H'
theorem pure_passed : PureOk 2 spPassed (t_passed K w) 2 := by
  refine ⟨fun vs H Q E ⟨_, _, _, _, e, _⟩ => by rw [e]; rfl, ?_⟩
  rintro vs H Q E ⟨i, l, us, ws, rfl, el, tw, q⟩
  show t_passed K w _ [some (.int i), some (.ref l)] H
  unfold t_passed
  walk_at "gg"
  cases ws with
  | nil =>
    rw [tw.nil_inv]
    refine g_T rfl ?_
    walk_at "gg"
    rename_i l1 H1 n1 e1 s1 a H2 na ea s2
    exact q _ H2 (.tup ea (.cons (.str _) (.one (.int _)))) (s1.trans s2)
  | cons w0 ws =>
    obtain ⟨u, us', rfl, tu, tus⟩ := Tps.cons_inv (ds := ws.map Wo.data) tw
    refine g_F rfl ?_
    walk_at "gg"
    rename_i l1 H1 n1 e1 s1 a H2 na ea s2
    exact q _ H2 (.tup ea (.cons (.str _) (.one (tu.mono (Same.tk (s1.trans s2)))))) (s1.trans s2)
def spCalledN (K : PySem.W.Frag) (w : World) : Sp := fun vs H Q _ => ∃ (O : Addr → Prop) (A : NA) (P : Prog) (rows : List NRow) (cl : Bool) (f : Str) (ts : List Int) (t l : Addr) (us : List V) (ws : List Wo), vs = [.ref A.x, .str f, .ref t, .ref l] ∧ NodesAt K w O H A P rows cl ∧ f ∈ allN P ∧ H t = some (.tup (ts.map V.int)) ∧ H l = some (.lst us) ∧ Wos H us ws ∧ rows.length < 15000000 ∧
  ∀ v H', NodesAt K w O H' A P (callN P rows cl f ts ws).2 cl → Tp H' v (callN P rows cl f ts ws).1.data → NBut [A.lk, A.dn] H H' → Tk H H' → Q v H'
theorem pure_calledN : PureOk 4 (spCalledN K w) (t_called K w (spDoor K w) (spNode K w)) 4 := by
  refine ⟨fun vs H Q E ⟨_, _, _, _, _, _, _, _, _, _, _, e, _⟩ => by rw [e]; rfl, ?_⟩
  rintro vs H Q E ⟨O, A, P, rows, cl, f, ts, t, l, us, ws, rfl, hN, hf, et, el, tw, hl, q⟩
  show t_called K w _ _ _ [some (.ref A.x), some (.str f), some (.ref t), some (.ref l)] H
  unfold t_called
  have ob := hN.ob
  walk_at "gg"
  rename_i l1 H1 n1 e1 s1
  have hN1 := hN.same s1
  cases ws with
  | nil =>
    rw [tw.nil_inv]
    refine g_T rfl ?_
    walk_at "gg"
    refine ⟨O, A, P, rows, cl, f, rfl, hN1, hf, fun a ea => ?_⟩
    walk_at "gg"
    refine ⟨O, A, P, rows, cl, _, ts, t, rfl, hN1, s1 _ _ et, by omega, fun H2 hN2 b2 k2 => ?_⟩
    walk_at "gg"
    rename_i a3 H3 n3 e3 s3
    exact q _ H3 (hN2.same s3) (.tup e3 (.cons (.str _) (.one (.int _)))) ((NBut.same s1).trans (b2.trans (NBut.same s3))) ((Same.tk s1).trans (k2.trans (Same.tk s3)))
  | cons w0 ws =>
    obtain ⟨u, us', rfl, tu, tus⟩ := Tps.cons_inv (ds := ws.map Wo.data) tw
    refine g_F rfl ?_
    walk_at "gg"
    rename_i a3 H3 n3 e3 s3
    exact q _ H3 (hN1.same s3) (.tup e3 (.cons (.str _) (.one (tu.mono (Same.tk (s1.trans s3)))))) (NBut.same (s1.trans s3)) (Same.tk (s1.trans s3))
def spOfFun (K : PySem.W.Frag) (w : World) : Sp := fun vs H Q _ => ∃ (O : Addr → Prop) (A : NA) (P : Prog) (rows : List NRow) (cl : Bool) (f : Str) (l : Addr) (us : List V) (ws : List Wo), vs = [.ref A.x, .str f, .ref l] ∧ NodesAt K w O H A P rows cl ∧ f ∈ allN P ∧ H l = some (.lst us) ∧ Wos H us ws ∧ rows.length < 15000000 ∧
  ∀ v H', NodesAt K w O H' A P (funN P rows cl f ws).2 cl → Tp H' v (funN P rows cl f ws).1.data → NBut [A.lk, A.dn] H H' → Tk H H' → Q v H'
theorem pure_offun : PureOk 3 (spOfFun K w) (t_of_fun K w (spDoor K w) (spCalledN K w)) 3 := by
  refine ⟨fun vs H Q E ⟨_, _, _, _, _, _, _, _, _, e, _⟩ => by rw [e]; rfl, ?_⟩
  rintro vs H Q E ⟨O, A, P, rows, cl, f, l, us, ws, rfl, hN, hf, el, tw, hl, q⟩
  show t_of_fun K w _ _ _ [some (.ref A.x), some (.str f), some (.ref l)] H
  unfold t_of_fun
  have ob := hN.ob
  walk_at "gg"
  refine ⟨O, A, P, rows, cl, f, rfl, hN, hf, fun a ea => ?_⟩
  walk_at "gg"
  by_cases hd : 0 < (P.door f).2
  · have hs : funN P rows cl f ws = (.worth (.fn f []), rows) := by unfold funN; rw [if_pos hd]
    rw [hs] at q
    refine g_T (decide_eq_true (by omega)) ?_
    walk_at "gg"
    rename_i t1 H1 n1 e1 s1 t2 H2 n2 e2 s2 t3 H3 n3 e3 s3
    exact q _ H3 (hN.same (s1.trans (s2.trans s3))) (.tup e3 (.cons (.str _) (.one (.tup (s3 _ _ e2) (.cons (.str _) (.cons (.str _) (.one (.tup (s3 _ _ (s2 _ _ e1)) .nil)))))))) (NBut.same (s1.trans (s2.trans s3))) (Same.tk (s1.trans (s2.trans s3)))
  · have hs : funN P rows cl f ws = callN P rows cl f [] ws := by unfold funN; rw [if_neg hd]
    rw [hs] at q
    refine g_F (decide_eq_false (by omega)) ?_
    walk_at "gg"
    rename_i t1 H1 n1 e1 s1
    walk_at "gg"
    exact ⟨O, A, P, rows, cl, f, [], t1, l, us, ws, rfl, hN.same s1, hf, e1, s1 _ _ el, tw.mono (Same.tk s1), hl, fun v H2 hN2 tv b2 k2 => q v H2 hN2 tv ((NBut.same s1).trans b2) ((Same.tk s1).trans k2)⟩
end

/-! ### what comes of a node, kind by kind -/
theorem sizes_range {P : Prog} {k : Nat} {fn : Fn1} (h1 : (allFn P)[k]? = some fn) {a : Nat} (ha1 : sz (P.bodies.take k) ≤ a) (ha2 : a < sz (P.bodies.take k) + fn.body.size) : (sizesL (allFn P))[a]? = some fn.things.length := by
  have h6 : (sizesL (allFn P)) = sizesL ((allFn P).take k) ++ (List.replicate fn.body.size fn.things.length ++ sizesL ((allFn P).drop (k + 1))) := by
    conv => lhs; rw [← List.take_append_drop k (allFn P), sizesL_app]
    congr 1
    have : (allFn P).drop k = fn :: (allFn P).drop (k + 1) := by
      obtain ⟨hk, e⟩ := List.getElem?_eq_some_iff.mp h1
      rw [List.drop_eq_getElem_cons hk, e]
    rw [this]
    rfl
  have h7 : (sizesL ((allFn P).take k)).length = sz (P.bodies.take k) := by rw [sizesL_len, List.map_take, allFn_bodies]
  rw [h6, List.getElem?_append_right (by omega), h7, List.getElem?_append_left (by rw [List.length_replicate]; omega), List.getElem?_replicate, if_pos (by omega)]
theorem gds_inner : ∀ (n : Nat) (p : Part) (i : Nat) (kn : Known), p.size ≤ n → ∀ (j : Nat) (g : Gd), (p.gds i kn)[j]? = some g → g.inner = placesOf g.part.kids (i + j + 1) ∧ j + g.part.size ≤ p.size ∧ g.part ∈ p.all := by
  intro n
  induction n with
  | zero => intro p i kn h; have := p.size_pos; omega
  | succ n ih =>
    intro p i kn hn j g hg
    have hsk := p.sz_kids
    rw [gds_eq] at hg
    cases j with
    | zero =>
      cases hg
      refine ⟨rfl, by show 0 + p.size ≤ _; omega, ?_⟩
      show p ∈ p.all
      rw [p.all_kids]
      exact List.mem_cons_self
    | succ j =>
      have hg' : (kidsGds p.kids (i + 1) (p.inKn i kn))[j]? = some g := hg
      have : ∀ (l : List Part) (a : Nat) (j : Nat), sz l ≤ n → (kidsGds l a (p.inKn i kn))[j]? = some g → g.inner = placesOf g.part.kids (a + j + 1) ∧ j + g.part.size ≤ sz l ∧ g.part ∈ l.flatMap Part.all := by
        intro l
        induction l with
        | nil => intro a j _ h; simp [kidsGds] at h
        | cons c l il =>
          intro a j hl h
          have hsz : sz (c :: l) = c.size + sz l := rfl
          have h' : (c.gds a (p.inKn i kn) ++ kidsGds l (a + c.size) (p.inKn i kn))[j]? = some g := h
          by_cases hj : j < c.size
          · rw [List.getElem?_append_left (by rw [Part.gds_len]; exact hj)] at h'
            obtain ⟨h1, h2, h3⟩ := ih c a _ (by omega) j g h'
            exact ⟨h1, by omega, by rw [List.flatMap_cons]; exact List.mem_append_left _ h3⟩
          · rw [List.getElem?_append_right (by rw [Part.gds_len]; omega), Part.gds_len] at h'
            obtain ⟨h1, h2, h3⟩ := il (a + c.size) (j - c.size) (by omega) h'
            refine ⟨?_, by omega, by rw [List.flatMap_cons]; exact List.mem_append_right _ h3⟩
            rw [h1, show a + c.size + (j - c.size) + 1 = a + j + 1 from by omega]
      obtain ⟨h1, h2, h3⟩ := this p.kids (i + 1) j (by omega) hg'
      refine ⟨by rw [h1, show i + 1 + j + 1 = i + (j + 1) + 1 from by omega], by omega, ?_⟩
      rw [p.all_kids]
      exact List.mem_cons_of_mem _ h3
theorem all_ok {fs : List Str} : ∀ (n : Nat) (p : Part) (sc : List Str), p.size ≤ n → p.ok fs sc → ∀ q ∈ p.all, ∃ sc', q.ok fs sc' := by
  intro n
  induction n with
  | zero => intro p sc h; have := p.size_pos; omega
  | succ n ih =>
    intro p sc h hok q hq
    rw [p.all_kids] at hq
    rcases List.mem_cons.mp hq with rfl | hq
    · exact ⟨sc, hok⟩
    · obtain ⟨k, hk, hq⟩ := List.mem_flatMap.mp hq
      have h1 := p.sz_kids
      have h2 := sz_mem hk
      obtain ⟨sc', h3⟩ := Part.ok_kids hok
      exact ih k sc' (by omega) (h3 k hk) q hq
theorem placesOf_mem : ∀ {l : List Part} {i q : Nat}, q ∈ placesOf l i → i ≤ q ∧ q < i + sz l
  | c :: l, i, q, h => by
    have hp := c.size_pos
    have hsz : sz (c :: l) = c.size + sz l := rfl
    rcases List.mem_cons.mp (show q ∈ i :: placesOf l (i + c.size) from h) with rfl | h
    · exact ⟨Nat.le_refl _, by omega⟩
    · have := placesOf_mem h
      exact ⟨by omega, by omega⟩
structure GdOk (P : Prog) (p n : Nat) (g : Gd) : Prop where
  inner : g.inner = placesOf g.part.kids (p + 1)
  sub : ∀ q ∈ g.inner, (sizesL (allFn P))[q]? = some n
  ok : ∃ sc, g.part.ok P.names sc
theorem gd_ok {P : Prog} (hF : P.fine) {p n : Nat} {g : Gd} (hg : P.gds[p]? = some g) (hn : (sizesL (allFn P))[p]? = some n) : GdOk P p n g := by
  have hp : p < (sizesL (allFn P)).length := (List.getElem?_eq_some_iff.mp hn).1
  obtain ⟨k, fn, h1, h2, h3, h4, h5⟩ := place_at hp
  rw [h5] at hn
  cases hn
  rw [h4] at hg
  obtain ⟨h6, h7, h8⟩ := gds_inner _ _ _ _ (Nat.le_refl _) _ _ hg
  have e : sz (P.bodies.take k) + (p - sz (P.bodies.take k)) = p := by omega
  rw [e] at h6
  have hmem : (fn.things, fn.body) ∈ P.rowsG := by rw [rowsG_all]; exact List.mem_map.mpr ⟨fn, List.mem_of_getElem? h1, rfl⟩
  obtain ⟨hfine, _⟩ := rowsG_fine hF _ hmem
  refine ⟨h6, fun q hq => ?_, all_ok _ _ _ (Nat.le_refl _) hfine.ok _ h8⟩
  rw [h6] at hq
  have h9 := placesOf_mem hq
  have h10 := g.part.sz_kids
  exact sizes_range h1 (by omega) (by omega)
section
variable {K : PySem.W.Frag} {w : World} {H : Hp} {Q : VK} {E : XK} {O : Addr → Prop} {A : NA} {P : Prog} {rows : List NRow} {cl : Bool} {ts : List Int} {t : Addr} {q : Nat}
theorem seenP_mk (hN : NodesAt K w O H A P rows cl) (et : H t = some (.tup (ts.map V.int))) (hq : (sizesL (allFn P))[q]? = some ts.length) (hl : rows.length < 16000000)
    (q' : ∀ H', NodesAt K w O H' A P (seenP P rows cl q ts).2 cl → NBut [A.lk, A.dn] H H' → Tk H H' → Q (.int (seenP P rows cl q ts).1) H') : spSeen K w [.ref A.x, .int (q : Nat), .ref t] H Q E := by
  have hlt : q < P.gds.length := by rw [gds_length]; exact (List.getElem?_eq_some_iff.mp hq).1
  have hg : P.gds[q]? = some P.gds[q] := List.getElem?_eq_getElem hlt
  have e : seenP P rows cl q ts = seenN P.gds[q] rows cl (q : Nat) ts := by unfold seenP; rw [hg]
  rw [e] at q'
  exact ⟨O, A, P, rows, cl, q, ts, t, _, rfl, hN, et, hg, seen_ok hg hq, hl, q'⟩
theorem seenP_len : (seenP P rows cl q ts).2.length ≤ rows.length + 1 := by
  unfold seenP
  cases P.gds[q]? with
  | none => exact Nat.le_succ _
  | some g =>
    show (seenN g rows cl (q : Nat) ts).2.length ≤ _
    unfold seenN
    have nl : ∀ r, (nodeN rows cl r).2.length ≤ rows.length + 1 := by
      intro r
      unfold nodeN
      cases rowIx rows r with
      | some i => exact Nat.le_succ _
      | none =>
        dsimp only
        split
        · exact Nat.le_succ _
        · rw [List.length_append]
          exact Nat.le_refl _
    cases g.named with
    | none => exact nl _
    | some m =>
      cases m with
      | thing k => exact Nat.le_succ _
      | row a => exact nl _
/-- a worth's kind is looked at -/
theorem g_wword {u : V} {w0 : Wo} (tu : Tp H u w0.data) (q : Q (.str w0.word) H) : rIxG K w u (.int 0) H Q := by
  obtain ⟨a, xs, rfl, e⟩ := tu.wo
  exact g_ixT (.of e) (atI_of (by decide) rfl) q
def spOfGive (K : PySem.W.Frag) (w : World) : Sp := fun vs H Q _ => ∃ (O : Addr → Prop) (A : NA) (P : Prog) (rows : List NRow) (cl : Bool) (i0 i1 : Nat) (ts : List Int) (il t l : Addr) (us : List V) (ws : List Wo), vs = [.ref A.x, .ref il, .ref t, .ref l] ∧ NodesAt K w O H A P rows cl ∧ P.fine ∧ H il = some (.lst (nInts [i0, i1])) ∧
  ((sizesL (allFn P))[i0]? = some ts.length ∧ (sizesL (allFn P))[i1]? = some ts.length) ∧ H t = some (.tup (ts.map V.int)) ∧ H l = some (.lst us) ∧ Wos H us ws ∧ (∀ w0 ∈ ws, WoOk P w0) ∧ l ∉ [A.lk, A.dn] ∧ rows.length < 14000000 ∧
  ∀ v H', NodesAt K w O H' A P (giveN P rows cl i0 i1 ts ws).2 cl → Tp H' v (giveN P rows cl i0 i1 ts ws).1.data → NBut [A.lk, A.dn] H H' → Tk H H' → Q v H'
theorem pure_ofgive : PureOk 4 (spOfGive K w) (t_of_give K w (spSeen K w) (spDoor K w) (spCalledN K w)) 7 := by
  refine ⟨fun vs H Q E ⟨_, _, _, _, _, _, _, _, _, _, _, _, _, e, _⟩ => by rw [e]; rfl, ?_⟩
  rintro vs H Q E ⟨O, A, P, rows, cl, i0, i1, ts, il, t, l, us, ws, rfl, hN, hF, ei, ⟨h0, h1⟩, et, el, tw, hok, nl, hl, q⟩
  show t_of_give K w _ _ _ _ [some (.ref A.x), some (.ref il), some (.ref t), some (.ref l), none, none, none] H
  unfold t_of_give
  have ob := hN.ob
  walk_at "gg"
  rename_i l1 H1 n1 e1 s1
  have hN1 := hN.same s1
  have et1 := s1 _ _ et
  have ei1 := s1 _ _ ei
  have el1 := s1 _ _ el
  have ob1 := s1 _ _ ob
  have tw1 := tw.mono (Same.tk s1)
  cases ws with
  | nil =>
    rw [tw.nil_inv]
    refine g_T rfl ?_
    walk_at "gg"
    refine seenP_mk hN1 et1 h0 (by omega) fun H2 hN2 b2 k2 => ?_
    walk_at "gg"
    rename_i a3 H3 n3 e3 s3
    exact q _ H3 (hN2.same s3) (.tup e3 (.cons (.str _) (.one (.int _)))) ((NBut.same s1).trans (b2.trans (NBut.same s3))) ((Same.tk s1).trans (k2.trans (Same.tk s3)))
  | cons w0 ws =>
    obtain ⟨u, us', rfl, tu, tus⟩ := Tps.cons_inv (ds := ws.map Wo.data) tw1
    refine g_F rfl ?_
    walk_at "gg"
    refine g_wword tu ?_
    walk_at "gg"
    have hw0 := hok w0 List.mem_cons_self
    cases w0 with
    | num n =>
      refine g_T (by show (!decide (("number" : Str) = "function")) = true; decide +kernel) ?_
      walk_at "gg"
      rename_i a3 H3 n3 e3 s3
      exact q _ H3 (hN1.same s3) (.tup e3 (.cons (.str _) (.one (.str _)))) (NBut.same (s1.trans s3)) (Same.tk (s1.trans s3))
    | pair c d =>
      refine g_T (by show (!decide (("pair" : Str) = "function")) = true; decide +kernel) ?_
      walk_at "gg"
      rename_i a3 H3 n3 e3 s3
      exact q _ H3 (hN1.same s3) (.tup e3 (.cons (.str _) (.one (.str _)))) (NBut.same (s1.trans s3)) (Same.tk (s1.trans s3))
    | fn f gv =>
      refine g_F (by show (!decide (("function" : Str) = "function")) = false; decide +kernel) ?_
      obtain ⟨a, b, rfl, ea, eb⟩ := tu.wfn
      obtain ⟨hf, hgl⟩ := hw0
      walk_at "gg"
      refine seenP_mk hN1 et1 h1 (by omega) fun H2 hN2 b2 k2 => ?_
      have hlen := seenP_len (P := P) (rows := rows) (cl := cl) (q := i1) (ts := ts)
      have el2 := b2 _ _ nl el1
      walk_at "gg"
      rename_i c3 H3 n3 e3 s3
      have d4 : (P.door f).2 ≤ 4 := by
        unfold Prog.door
        dsimp only
        cases e : P.rowsG[P.names.idxOf f]? with
        | none => exact Nat.zero_le _
        | some qq => exact (rowsG_fine hF qq (List.mem_of_getElem? e)).2
      refine g_addTn (s3 _ _ (k2 _ _ eb)) e3 (by rw [List.length_map]; show _ + 1 ≤ 16777216; omega) (by simp) fun g4 H4 e4 s4 => ?_
      have s24 := s3.trans s4
      have e4' : H4 g4 = some (.tup ((gv ++ [(seenP P rows cl i1 ts).1]).map V.int)) := by rw [e4, List.map_append]; rfl
      have hN4 := hN2.same s24
      have ob4 := hN4.ob
      have b14 : NBut [A.lk, A.dn] H H4 := (NBut.same s1).trans (b2.trans (NBut.same s24))
      have k14 : Tk H H4 := (Same.tk s1).trans (k2.trans (Same.tk s24))
      walk_at "gg"
      refine ⟨O, A, P, _, cl, f, rfl, hN4, hf, fun a5 ea5 => ?_⟩
      walk_at "gg"
      have hge : giveN P rows cl i0 i1 ts (.fn f gv :: ws) = if (gv ++ [(seenP P rows cl i1 ts).1]).length < (P.door f).2 then (.worth (.fn f (gv ++ [(seenP P rows cl i1 ts).1])), (seenP P rows cl i1 ts).2) else callN P (seenP P rows cl i1 ts).2 cl f (gv ++ [(seenP P rows cl i1 ts).1]) ws := rfl
      by_cases hlt : (gv ++ [(seenP P rows cl i1 ts).1]).length < (P.door f).2
      · rw [if_pos hlt] at hge
        rw [hge] at q
        refine g_T (decide_eq_true (by simp only [List.length_append, List.length_map, List.length_singleton, List.length_cons, List.length_nil] at hlt ⊢; omega)) ?_
        walk_at "gg"
        rename_i c6 H6 n6 e6 s6 c7 H7 n7 e7 s7
        exact q _ H7 (hN4.same (s6.trans s7)) (.tup e7 (.cons (.str _) (.one (.tup (s7 _ _ e6) (.cons (.str _) (.cons (.str _) (.one (.tup (s7 _ _ (s6 _ _ e4')) (Tps.ints _)))))))) ) (b14.trans (NBut.same (s6.trans s7))) (k14.trans (Same.tk (s6.trans s7)))
      · rw [if_neg hlt] at hge
        rw [hge] at q
        refine g_F (decide_eq_false (by simp only [List.length_append, List.length_map, List.length_singleton, List.length_cons, List.length_nil] at hlt ⊢; omega)) ?_
        walk_at "gg"
        refine g_slL (.of (s24 _ _ el2)) fun l5 H5 n5 e5 s5 => ?_
        rw [cut_tail] at e5
        walk_at "gg"
        refine ⟨O, A, P, _, cl, f, _, g4, l5, us', ws, rfl, hN4.same s5, hf, s5 _ _ e4', e5, tus.mono (k2.trans (Same.tk (s24.trans s5))), by omega, fun v H6 hN6 tv b6 k6 => ?_⟩
        exact q v H6 hN6 tv (b14.trans ((NBut.same s5).trans b6)) (k14.trans ((Same.tk s5).trans k6))
end

/-! ### what comes of a node: numbers, choices, sides; any node -/
section
variable {K : PySem.W.Frag} {w : World} {H : Hp} {Q : VK} {E : XK} {O : Addr → Prop} {A : NA} {P : Prog} {rows : List NRow} {cl : Bool} {ts : List Int} {t : Addr} {q : Nat}
def opWs : List Wo → Prop
  | [] => True
  | [_] => True
  | [.num _, _] => True
  | _ => False
theorem Wos.one {us : List V} {w0 : Wo} (h : Wos H us [w0]) : ∃ u, us = [u] ∧ Tp H u w0.data := by
  obtain ⟨u, us', rfl, tu, tus⟩ := Tps.cons_inv (ds := []) h
  rw [tus.nil_inv]
  exact ⟨u, rfl, tu⟩
theorem Wos.two {us : List V} {w0 w1 : Wo} (h : Wos H us [w0, w1]) : ∃ u v, us = [u, v] ∧ Tp H u w0.data ∧ Tp H v w1.data := by
  obtain ⟨u, us', rfl, tu, tus⟩ := Tps.cons_inv (ds := [w1.data]) h
  obtain ⟨v, rfl, tv⟩ := Wos.one tus
  exact ⟨u, v, rfl, tu, tv⟩
def spOfNums (K : PySem.W.Frag) (w : World) : Sp := fun vs H Q _ => ∃ (O : Addr → Prop) (A : NA) (P : Prog) (rows : List NRow) (cl : Bool) (k : K2) (i0 i1 : Nat) (ts : List Int) (il t l : Addr) (us : List V) (ws : List Wo), vs = [.str k.word, .ref A.x, .ref il, .ref t, .ref l] ∧ NodesAt K w O H A P rows cl ∧ k.op = true ∧ H il = some (.lst (nInts [i0, i1])) ∧
  ((sizesL (allFn P))[i0]? = some ts.length ∧ (sizesL (allFn P))[i1]? = some ts.length) ∧ H t = some (.tup (ts.map V.int)) ∧ H l = some (.lst us) ∧ Wos H us ws ∧ (∀ w0 ∈ ws, WoOk P w0) ∧ opWs ws ∧ rows.length < 14000000 ∧
  ∀ v H', NodesAt K w O H' A P (opN P rows cl k i0 i1 ts ws).2 cl → Tp H' v (opN P rows cl k i0 i1 ts ws).1.data → NBut [A.lk, A.dn] H H' → Tk H H' → Q v H'
theorem pure_ofnums : PureOk 5 (spOfNums K w) (t_of_numbers K w (spSeen K w) spReck spSmall) 6 := by
  refine ⟨fun vs H Q E ⟨_, _, _, _, _, _, _, _, _, _, _, _, _, _, e, _⟩ => by rw [e]; rfl, ?_⟩
  rintro vs H Q E ⟨O, A, P, rows, cl, k, i0, i1, ts, il, t, l, us, ws, rfl, hN, hk, ei, ⟨h0, h1⟩, et, el, tw, hok, hop, hl, q⟩
  show t_of_numbers K w _ _ _ _ [some (.str k.word), some (.ref A.x), some (.ref il), some (.ref t), some (.ref l), none] H
  unfold t_of_numbers
  have ob := hN.ob
  have nofn : ∀ (w1 : Wo), w1.word ≠ "number" → ∀ (rest : (An × List NRow)), rest = (.fault "number", rows) → (∀ v H', NodesAt K w O H' A P rest.2 cl → Tp H' v rest.1.data → NBut [A.lk, A.dn] H H' → Tk H H' → Q v H') → (tRet (tTupN (tCons (tC (.str "fault")) (tCons (tC (.str "number")) tNil)))) { nx := fun _ H' => Q .non H', rt := Q } [some (.str k.word), some (.ref A.x), some (.ref il), some (.ref t), some (.ref l), none] H := by
    intro w1 _ rest hr q
    subst hr
    walk_at "gg"
    rename_i a3 H3 n3 e3 s3
    exact q _ H3 (hN.same s3) (.tup e3 (.cons (.str _) (.one (.str _)))) (NBut.same s3) (Same.tk s3)
  match ws, hop, tw, hok, q with
  | [], _, tw, hok, q =>
    have hu := tw.nil_inv
    subst hu
    walk_at "gg"
    refine seenP_mk hN et h0 (by omega) fun H2 hN2 b2 k2 => ?_
    walk_at "gg"
    rename_i a3 H3 n3 e3 s3
    exact q _ H3 (hN2.same s3) (.tup e3 (.cons (.str _) (.one (.int _)))) (b2.trans (NBut.same s3)) (k2.trans (Same.tk s3))
  | [w0], _, tw, hok, q =>
    obtain ⟨u, rfl, tu⟩ := tw.one
    walk_at "gg"
    refine g_wword tu ?_
    walk_at "gg"
    cases w0 with
    | num n =>
      refine g_F (by show (!decide (("number" : Str) = "number")) = false; decide +kernel) ?_
      walk_at "gg"
      refine seenP_mk hN et h1 (by omega) fun H2 hN2 b2 k2 => ?_
      walk_at "gg"
      rename_i a3 H3 n3 e3 s3
      exact q _ H3 (hN2.same s3) (.tup e3 (.cons (.str _) (.one (.int _)))) (b2.trans (NBut.same s3)) (k2.trans (Same.tk s3))
    | pair c d =>
      refine g_T (by show (!decide (("pair" : Str) = "number")) = true; decide +kernel) ?_
      exact nofn (.pair c d) (by show ("pair" : Str) ≠ "number"; decide) _ rfl q
    | fn f gv =>
      refine g_T (by show (!decide (("function" : Str) = "number")) = true; decide +kernel) ?_
      exact nofn (.fn f gv) (by show ("function" : Str) ≠ "number"; decide) _ rfl q
  | [.num n, w1], _, tw, hok, q =>
    obtain ⟨u, v, rfl, tu, tv⟩ := tw.two
    walk_at "gg"
    refine g_wword tv ?_
    walk_at "gg"
    have hn : n.natAbs < 10 ^ 60 := hok (.num n) List.mem_cons_self
    cases w1 with
    | num m =>
      have hm : m.natAbs < 10 ^ 60 := hok (.num m) (List.mem_cons_of_mem _ List.mem_cons_self)
      refine g_F (by show (!decide (("number" : Str) = "number")) = false; decide +kernel) ?_
      obtain ⟨a, rfl, ea⟩ := tu.wnum
      obtain ⟨b, rfl, eb⟩ := tv.wnum
      have hopn : opN P rows cl k i0 i1 ts [.num n, .num m] = if (reck k n m).natAbs < 10 ^ 60 then (.worth (.num (reck k n m)), rows) else (.fault "great", rows) := rfl
      clear hok
      walk_at "gg"
      refine ⟨k, n, m, rfl, hk, hn, hm, ?_⟩
      walk_at "gg"
      refine ⟨_, rfl, ?_⟩
      refine g_trubl ?_
      by_cases hs : (reck k n m).natAbs < 10 ^ 60
      · rw [if_pos hs] at hopn
        rw [hopn] at q
        refine g_F (by rw [decide_eq_true hs]; rfl) ?_
        clear hn hm hs hopn
        walk_at "gg"
        rename_i a3 H3 n3 e3 s3 a4 H4 n4 e4 s4
        exact q _ H4 (hN.same (s3.trans s4)) (.tup e4 (.cons (.str _) (.one (.tup (s4 _ _ e3) (.cons (.str _) (.one (.int _))))))) (NBut.same (s3.trans s4)) (Same.tk (s3.trans s4))
      · rw [if_neg hs] at hopn
        rw [hopn] at q
        refine g_T (by rw [decide_eq_false hs]; rfl) ?_
        clear hn hm hs hopn
        walk_at "gg"
        rename_i a3 H3 n3 e3 s3
        exact q _ H3 (hN.same s3) (.tup e3 (.cons (.str _) (.one (.str _)))) (NBut.same s3) (Same.tk s3)
    | pair c d =>
      refine g_T (by show (!decide (("pair" : Str) = "number")) = true; decide +kernel) ?_
      exact nofn (.pair c d) (by show ("pair" : Str) ≠ "number"; decide) _ rfl q
    | fn f gv =>
      refine g_T (by show (!decide (("function" : Str) = "number")) = true; decide +kernel) ?_
      exact nofn (.fn f gv) (by show ("function" : Str) ≠ "number"; decide) _ rfl q
def spOfWhen (K : PySem.W.Frag) (w : World) : Sp := fun vs H Q _ => ∃ (O : Addr → Prop) (A : NA) (P : Prog) (rows : List NRow) (cl : Bool) (i0 i1 i2 : Nat) (ts : List Int) (il t l : Addr) (us : List V) (ws : List Wo), vs = [.ref A.x, .ref il, .ref t, .ref l] ∧ NodesAt K w O H A P rows cl ∧ H il = some (.lst (nInts [i0, i1, i2])) ∧
  ((sizesL (allFn P))[i0]? = some ts.length ∧ (sizesL (allFn P))[i1]? = some ts.length ∧ (sizesL (allFn P))[i2]? = some ts.length) ∧ H t = some (.tup (ts.map V.int)) ∧ H l = some (.lst us) ∧ Wos H us ws ∧ l ∉ [A.lk, A.dn] ∧ rows.length < 14000000 ∧
  ∀ v H', NodesAt K w O H' A P (whenN P rows cl i0 i1 i2 ts ws).2 cl → Tp H' v (whenN P rows cl i0 i1 i2 ts ws).1.data → NBut [A.lk, A.dn] H H' → Tk H H' → Q v H'
theorem pure_ofwhen : PureOk 4 (spOfWhen K w) (t_of_when K w (spSeen K w) spPassed) 5 := by
  refine ⟨fun vs H Q E ⟨_, _, _, _, _, _, _, _, _, _, _, _, _, _, e, _⟩ => by rw [e]; rfl, ?_⟩
  rintro vs H Q E ⟨O, A, P, rows, cl, i0, i1, i2, ts, il, t, l, us, ws, rfl, hN, ei, ⟨h0, h1, h2⟩, et, el, tw, nl, hl, q⟩
  show t_of_when K w _ _ _ [some (.ref A.x), some (.ref il), some (.ref t), some (.ref l), none] H
  unfold t_of_when
  have ob := hN.ob
  walk_at "gg"
  rename_i l1 H1 n1 e1 s1
  have hN1 := hN.same s1
  have et1 := s1 _ _ et
  have ei1 := s1 _ _ ei
  have el1 := s1 _ _ el
  have ob1 := s1 _ _ ob
  have tw1 := tw.mono (Same.tk s1)
  cases ws with
  | nil =>
    rw [tw.nil_inv]
    refine g_T rfl ?_
    walk_at "gg"
    refine seenP_mk hN1 et1 h0 (by omega) fun H2 hN2 b2 k2 => ?_
    walk_at "gg"
    rename_i a3 H3 n3 e3 s3
    exact q _ H3 (hN2.same s3) (.tup e3 (.cons (.str _) (.one (.int _)))) ((NBut.same s1).trans (b2.trans (NBut.same s3))) ((Same.tk s1).trans (k2.trans (Same.tk s3)))
  | cons w0 ws =>
    obtain ⟨u, us', rfl, tu, tus⟩ := Tps.cons_inv (ds := ws.map Wo.data) tw1
    refine g_F rfl ?_
    walk_at "gg"
    refine g_wword tu ?_
    walk_at "gg"
    cases w0 with
    | num n =>
      refine g_F (by show (!decide (("number" : Str) = "number")) = false; decide +kernel) ?_
      obtain ⟨a, rfl, ea⟩ := tu.wnum
      have key : ∀ i : Nat, (sizesL (allFn P))[i]? = some ts.length → (∀ v H', NodesAt K w O H' A P (seenP P rows cl i ts).2 cl → Tp H' v (passN (seenP P rows cl i ts).1 ws).data → NBut [A.lk, A.dn] H H' → Tk H H' → Q v H') →
          (tRet (tCall spPassed [] E0 (tCons (tMeth (He.ga K "Nodes") "seen" (spSeen K w) [] E0 (tVar 0) (tCons (tVar 4) (tCons (tVar 2) tNil))) (tCons (tSl (rSlG K) (tVar 3) (tPart (tC (.int 1))) tNoPart) tNil)))) { nx := fun _ H' => Q .non H', rt := Q } [some (.ref A.x), some (.ref il), some (.ref t), some (.ref l), some (.int (i : Nat))] H1 := by
        intro i hi q
        walk_at "gg"
        refine seenP_mk hN1 et1 hi (by omega) fun H2 hN2 b2 k2 => ?_
        have el2 := b2 _ _ nl el1
        walk_at "gg"
        refine g_slL (.of el2) fun l5 H5 n5 e5 s5 => ?_
        rw [cut_tail] at e5
        walk_at "gg"
        refine ⟨_, l5, us', ws, rfl, e5, tus.mono (k2.trans (Same.tk s5)), fun v H6 tv s6 => ?_⟩
        exact q v H6 (hN2.same (s5.trans s6)) tv ((NBut.same s1).trans (b2.trans (NBut.same (s5.trans s6)))) ((Same.tk s1).trans (k2.trans (Same.tk (s5.trans s6))))
      walk_at "gg"
      by_cases hn : n = 0
      · refine g_F (by rw [decide_eq_true hn]; rfl) ?_
        refine g_ixop (g_var rfl (g_c ?_))
        refine g_ixL (.of ei1) (atI_nat (j := 2) (nInts_at (l := [i0, i1, i2]) (k := i2) rfl)) (g_name rfl ?_)
        refine key i2 h2 ?_
        have : whenN P rows cl i0 i1 i2 ts (.num n :: ws) = (passN (seenP P rows cl i2 ts).1 ws, (seenP P rows cl i2 ts).2) := by
          show (passN (seenP P rows cl (if n = 0 then i2 else i1) ts).1 ws, (seenP P rows cl (if n = 0 then i2 else i1) ts).2) = _
          rw [if_pos hn]
        rw [this] at q
        exact q
      · refine g_T (by rw [decide_eq_false hn]; rfl) ?_
        refine g_ixop (g_var rfl (g_c ?_))
        refine g_ixL (.of ei1) (atI_nat (j := 1) (nInts_at (l := [i0, i1, i2]) (k := i1) rfl)) (g_name rfl ?_)
        refine key i1 h1 ?_
        have : whenN P rows cl i0 i1 i2 ts (.num n :: ws) = (passN (seenP P rows cl i1 ts).1 ws, (seenP P rows cl i1 ts).2) := by
          show (passN (seenP P rows cl (if n = 0 then i2 else i1) ts).1 ws, (seenP P rows cl (if n = 0 then i2 else i1) ts).2) = _
          rw [if_neg hn]
        rw [this] at q
        exact q
    | pair c d =>
      refine g_T (by show (!decide (("pair" : Str) = "number")) = true; decide +kernel) ?_
      walk_at "gg"
      rename_i a3 H3 n3 e3 s3
      exact q _ H3 (hN1.same s3) (.tup e3 (.cons (.str _) (.one (.str _)))) (NBut.same (s1.trans s3)) (Same.tk (s1.trans s3))
    | fn f gv =>
      refine g_T (by show (!decide (("function" : Str) = "number")) = true; decide +kernel) ?_
      walk_at "gg"
      rename_i a3 H3 n3 e3 s3
      exact q _ H3 (hN1.same s3) (.tup e3 (.cons (.str _) (.one (.str _)))) (NBut.same (s1.trans s3)) (Same.tk (s1.trans s3))
def spOfSide (K : PySem.W.Frag) (w : World) : Sp := fun vs H Q _ => ∃ (O : Addr → Prop) (A : NA) (P : Prog) (rows : List NRow) (cl : Bool) (k : K1) (i0 : Nat) (ts : List Int) (il t l : Addr) (us : List V) (ws : List Wo), vs = [.str k.word, .ref A.x, .ref il, .ref t, .ref l] ∧ NodesAt K w O H A P rows cl ∧ H il = some (.lst (nInts [i0])) ∧
  (sizesL (allFn P))[i0]? = some ts.length ∧ H t = some (.tup (ts.map V.int)) ∧ H l = some (.lst us) ∧ Wos H us ws ∧ rows.length < 14000000 ∧
  ∀ v H', NodesAt K w O H' A P (sideN P rows cl k i0 ts ws).2 cl → Tp H' v (sideN P rows cl k i0 ts ws).1.data → NBut [A.lk, A.dn] H H' → Tk H H' → Q v H'
theorem pure_ofside : PureOk 5 (spOfSide K w) (t_of_side K w (spSeen K w) spPassed) 5 := by
  refine ⟨fun vs H Q E ⟨_, _, _, _, _, _, _, _, _, _, _, _, _, e, _⟩ => by rw [e]; rfl, ?_⟩
  rintro vs H Q E ⟨O, A, P, rows, cl, k, i0, ts, il, t, l, us, ws, rfl, hN, ei, h0, et, el, tw, hl, q⟩
  show t_of_side K w _ _ _ [some (.str k.word), some (.ref A.x), some (.ref il), some (.ref t), some (.ref l)] H
  unfold t_of_side
  have ob := hN.ob
  walk_at "gg"
  rename_i l1 H1 n1 e1 s1
  have hN1 := hN.same s1
  have et1 := s1 _ _ et
  have ei1 := s1 _ _ ei
  have el1 := s1 _ _ el
  have ob1 := s1 _ _ ob
  have tw1 := tw.mono (Same.tk s1)
  cases ws with
  | nil =>
    rw [tw.nil_inv]
    refine g_T rfl ?_
    walk_at "gg"
    refine seenP_mk hN1 et1 h0 (by omega) fun H2 hN2 b2 k2 => ?_
    walk_at "gg"
    rename_i a3 H3 n3 e3 s3
    exact q _ H3 (hN2.same s3) (.tup e3 (.cons (.str _) (.one (.int _)))) ((NBut.same s1).trans (b2.trans (NBut.same s3))) ((Same.tk s1).trans (k2.trans (Same.tk s3)))
  | cons w0 ws =>
    obtain ⟨u, us', rfl, tu, tus⟩ := Tps.cons_inv (ds := ws.map Wo.data) tw1
    refine g_F rfl ?_
    walk_at "gg"
    refine g_wword tu ?_
    walk_at "gg"
    cases w0 with
    | pair c d =>
      refine g_F (by show (!decide (("pair" : Str) = "pair")) = false; decide +kernel) ?_
      obtain ⟨a, rfl, ea⟩ := tu.wpair
      have hs : sideN P rows cl k i0 ts (.pair c d :: ws) = (passN (sideOf k c d) ws, rows) := rfl
      rw [hs] at q
      cases k with
      | left =>
        walk_at "gg"
        refine g_slL (.of el1) fun l5 H5 n5 e5 s5 => ?_
        rw [cut_tail] at e5
        walk_at "gg"
        refine ⟨_, l5, us', ws, rfl, e5, tus.mono (Same.tk s5), fun v H6 tv s6 => ?_⟩
        exact q v H6 (hN1.same (s5.trans s6)) tv (NBut.same (s1.trans (s5.trans s6))) (Same.tk (s1.trans (s5.trans s6)))
      | right =>
        walk_at "gg"
        refine g_slL (.of el1) fun l5 H5 n5 e5 s5 => ?_
        rw [cut_tail] at e5
        walk_at "gg"
        refine ⟨_, l5, us', ws, rfl, e5, tus.mono (Same.tk s5), fun v H6 tv s6 => ?_⟩
        exact q v H6 (hN1.same (s5.trans s6)) tv (NBut.same (s1.trans (s5.trans s6))) (Same.tk (s1.trans (s5.trans s6)))
    | num n =>
      refine g_T (by show (!decide (("number" : Str) = "pair")) = true; decide +kernel) ?_
      walk_at "gg"
      rename_i a3 H3 n3 e3 s3
      exact q _ H3 (hN1.same s3) (.tup e3 (.cons (.str _) (.one (.str _)))) (NBut.same (s1.trans s3)) (Same.tk (s1.trans s3))
    | fn f gv =>
      refine g_T (by show (!decide (("function" : Str) = "pair")) = true; decide +kernel) ?_
      walk_at "gg"
      rename_i a3 H3 n3 e3 s3
      exact q _ H3 (hN1.same s3) (.tup e3 (.cons (.str _) (.one (.str _)))) (NBut.same (s1.trans s3)) (Same.tk (s1.trans s3))
end

/-! ### what comes of any node -/
section
variable {K : PySem.W.Frag} {w : World}
/-- worths that may come to a node of a place -/
def wsFit (P : Prog) (p : Nat) (ws : List Wo) : Prop := ∀ g k a b, P.gds[p]? = some g → g.part = .two k a b → k.op = true → opWs ws
def spBehindN (K : PySem.W.Frag) (w : World) : Sp := fun vs H Q _ => ∃ (O : Addr → Prop) (A : NA) (P : Prog) (rows : List NRow) (cl : Bool) (n p : Nat) (ts : List Int) (l : Addr) (us : List V) (ws : List Wo), vs = [.ref A.x, .int (n : Nat), .ref l] ∧ NodesAt K w O H A P rows cl ∧ P.fine ∧ rows[n]? = some (((p : Nat) : Int), ts) ∧
  (sizesL (allFn P))[p]? = some ts.length ∧ H l = some (.lst us) ∧ Wos H us ws ∧ (∀ w0 ∈ ws, WoOk P w0) ∧ wsFit P p ws ∧ l ∉ [A.lk, A.dn] ∧ rows.length < 13000000 ∧
  ∀ v H', NodesAt K w O H' A P (behN P rows cl p ts ws).2 cl → Tp H' v (behN P rows cl p ts ws).1.data → NBut [A.lk, A.dn] H H' → Tk H H' → Q v H'
theorem NodesAt.there {H : Hp} {O : Addr → Prop} {A : NA} {P : Prog} {rows : List NRow} {cl : Bool} (h : NodesAt K w O H A P rows cl) : H A.lk ≠ none ∧ H A.dn ≠ none := by
  obtain ⟨as, e1, e2, e3⟩ := h.kept
  refine ⟨(by rw [e1]; exact fun z => (by cases z)), ?_⟩
  rcases e3.at_ with e | ⟨_, e⟩ <;> rw [e] <;> exact fun z => by cases z
theorem getD_at {l : List Nat} {i k : Nat} (h : l[i]? = some k) : l.getD i 0 = k := by rw [List.getD_eq_getElem?_getD, h]; rfl
theorem mem_allN {P : Prog} {f : Str} (h : f ∈ P.names) : f ∈ allN P := List.mem_append_left _ h
theorem pure_behindN (T : GTup K (He.ga K "OPERATIONS") [.str "plus", .str "less", .str "times", .str "below"]) : PureOk 3 (spBehindN K w) (t_behind K w (spTold K w) (spNPart K w) (spNInner K w) (spSeen K w) spPassed (spOfFun K w) (spOfGive K w) (spOfNums K w) (spOfWhen K w) (spOfSide K w)) 7 := by
  refine ⟨fun vs H Q E ⟨_, _, _, _, _, _, _, _, _, _, _, e, _⟩ => by rw [e]; rfl, ?_⟩
  rintro vs H Q E ⟨O, A, P, rows, cl, n, p, ts, l, us, ws, rfl, hN, hF, hr, hsz, el, tw, hok, hfit, nl, hl, q⟩
  show t_behind K w _ _ _ _ _ _ _ _ _ _ _ [some (.ref A.x), some (.int (n : Nat)), some (.ref l), none, none, none, none] H
  unfold t_behind
  have ob := hN.ob
  have hlt : p < P.gds.length := by rw [gds_length]; exact (List.getElem?_eq_some_iff.mp hsz).1
  obtain ⟨g, hg⟩ : ∃ g, P.gds[p]? = some g := ⟨_, List.getElem?_eq_getElem hlt⟩
  have hgo := gd_ok hF hg hsz
  have hbeh := behN_at (rows := rows) (cl := cl) (ts := ts) (ws := ws) hg
  obtain ⟨gp, gi, gn⟩ := g
  obtain ⟨hin, hsub, sc, hgok⟩ := hgo
  dsimp only at hin hsub hgok
  walk_at "gg"
  refine ⟨O, A, P, rows, cl, n, _, rfl, hN, hr, fun a ra => ?_⟩
  obtain ⟨t, ea, et⟩ := ra
  dsimp only at ea et
  refine g_un2 ea ?_
  walk_at "gg"
  refine ⟨O, A, P, rows, cl, p, _, rfl, hN, hg, fun u tu => ?_⟩
  walk_at "gg"
  refine ⟨O, A, P, rows, cl, p, _, rfl, hN, hg, fun il H1 nil' eil s1 => ?_⟩
  have hN1 := hN.same s1
  have ob1 := hN1.ob
  have et1 := s1 _ _ et
  have el1 := s1 _ _ el
  have tw1 := tw.mono (Same.tk s1)
  have tu1 := tu.mono (Same.tk s1)
  dsimp only at eil tu1
  obtain ⟨pa, xs, rfl, epa, txs⟩ := tu1.part
  have fin : ∀ v H', NodesAt K w O H' A P (behN P rows cl p ts ws).2 cl → Tp H' v (behN P rows cl p ts ws).1.data → NBut [A.lk, A.dn] H1 H' → Tk H1 H' → Q v H' := fun v H' a b c d => q v H' a b ((NBut.same s1).trans c) ((Same.tk s1).trans d)
  obtain ⟨th1, th2⟩ := hN.there
  clear q hN ob ea et tu tw el
  obtain ⟨as0, lk0, _, _⟩ := hN1.kept
  cases gp with
  | num m =>
    rw [hbeh] at fin
    obtain ⟨y, ys, rfl, ty, ty2⟩ := txs.cons_inv
    rw [ty.int_inv, ty2.nil_inv] at epa
    have epa' : H1 pa = some (.tup [.str "number", .int m]) := epa
    clear epa
    walk_at "gg"
    rename_i b3 H3 n3 e3 s3 b4 H4 n4 e4 s4
    exact fin _ H4 (hN1.same (s3.trans s4)) (.tup e4 (.cons (.str _) (.one (.tup (s4 _ _ e3) (.cons (.str _) (.one (.int _))))))) (NBut.same (s3.trans s4)) (Same.tk (s3.trans s4))
  | name x =>
    rw [hbeh] at fin
    obtain ⟨y, ys, rfl, ty, ty2⟩ := txs.cons_inv
    rw [ty.str_inv, ty2.nil_inv] at epa
    have epa' : H1 pa = some (.tup [.str "name", .str x]) := epa
    clear epa
    walk_at "gg"
    refine seenP_mk hN1 et1 hsz (by omega) fun H2 hN2 b2 k2 => ?_
    walk_at "gg"
    refine ⟨_, l, us, ws, rfl, b2 _ _ nl el1, tw1.mono k2, fun v H3 tv s3 => ?_⟩
    exact fin v H3 (hN2.same s3) tv (b2.trans (NBut.same s3)) (k2.trans (Same.tk s3))
  | fn f =>
    rw [hbeh] at fin
    obtain ⟨y, ys, rfl, ty, ty2⟩ := txs.cons_inv
    rw [ty.str_inv, ty2.nil_inv] at epa
    have epa' : H1 pa = some (.tup [.str "fun", .str f]) := epa
    clear epa
    walk_at "gg"
    exact ⟨O, A, P, rows, cl, f, l, us, ws, rfl, hN1, mem_allN hgok.1, el1, tw1, by omega, fun v H3 hN3 tv b3 k3 => fin v H3 hN3 tv b3 k3⟩
  | one k c =>
    have hk0 : gi = [p + 1] := hin
    subst hk0
    rw [hbeh] at fin
    have h0 := hsub (p + 1) (by simp)
    obtain ⟨y, ys, rfl, ty, ty2⟩ := txs.cons_inv
    rw [ty2.nil_inv] at epa
    cases k with
    | left =>
      have epa' : H1 pa = some (.tup [.str "left", y]) := epa
      clear epa
      walk_at "gg"
      exact ⟨O, A, P, rows, cl, .left, p + 1, ts, il, t, l, us, ws, rfl, hN1, eil, h0, et1, el1, tw1, by omega, fun v H3 hN3 tv b3 k3 => fin v H3 hN3 tv b3 k3⟩
    | right =>
      have epa' : H1 pa = some (.tup [.str "right", y]) := epa
      clear epa
      walk_at "gg"
      exact ⟨O, A, P, rows, cl, .right, p + 1, ts, il, t, l, us, ws, rfl, hN1, eil, h0, et1, el1, tw1, by omega, fun v H3 hN3 tv b3 k3 => fin v H3 hN3 tv b3 k3⟩
  | two k c d =>
    have hk0 : gi = [p + 1, p + 1 + c.size] := hin
    subst hk0
    have h0 := hsub (p + 1) (by simp)
    have h1 := hsub (p + 1 + c.size) (by simp)
    obtain ⟨y, ys, rfl, ty, ty2⟩ := txs.cons_inv
    obtain ⟨z, zs, rfl, tz, tz2⟩ := ty2.cons_inv
    rw [tz2.nil_inv] at epa
    cases k with
    | give =>
      rw [hbeh] at fin
      have epa' : H1 pa = some (.tup [.str "give", y, z]) := epa
      clear epa
      walk_at "gg"
      exact ⟨O, A, P, rows, cl, p + 1, p + 1 + c.size, ts, il, t, l, us, ws, rfl, hN1, hF, eil, ⟨h0, h1⟩, et1, el1, tw1, hok, nl, by omega, fun v H3 hN3 tv b3 k3 => fin v H3 hN3 tv b3 k3⟩
    | pair =>
      rw [hbeh] at fin
      have epa' : H1 pa = some (.tup [.str "pair", y, z]) := epa
      clear epa
      have nil2 : il ∉ [A.lk, A.dn] := by
        intro zz
        have hn : H il = none := nil'
        simp only [List.mem_cons, List.not_mem_nil, or_false] at zz
        rcases zz with rfl | rfl
        · exact th1 hn
        · exact th2 hn
      walk_at "gg"
      refine seenP_mk hN1 et1 h0 (by omega) fun H2 hN2 b2 k2 => ?_
      have ob2 := hN2.ob
      have hlen := seenP_len (P := P) (rows := rows) (cl := cl) (q := p + 1) (ts := ts)
      walk_at "gg"
      refine g_ixL (.of (b2 _ _ nil2 eil)) (atI_nat (j := 1) (nInts_at (l := [p + 1, p + 1 + c.size]) (k := p + 1 + c.size) rfl)) ?_
      walk_at "gg"
      refine seenP_mk hN2 (k2 _ _ et1) h1 (by omega) fun H3 hN3 b3 k3 => ?_
      walk_at "gg"
      rename_i b4 H4 n4 e4 s4 b5 H5 n5 e5 s5
      exact fin _ H5 (hN3.same (s4.trans s5)) (.tup e5 (.cons (.str _) (.one (.tup (s5 _ _ e4) (.cons (.str _) (.cons (.int _) (.one (.int _)))))))) (b2.trans (b3.trans (NBut.same (s4.trans s5)))) (k2.trans (k3.trans (Same.tk (s4.trans s5))))
    | plus =>
      rw [hbeh] at fin
      have epa' : H1 pa = some (.tup [.str "plus", y, z]) := epa
      clear epa
      walk_at "gg"
      exact ⟨O, A, P, rows, cl, .plus, p + 1, p + 1 + c.size, ts, il, t, l, us, ws, rfl, hN1, rfl, eil, ⟨h0, h1⟩, et1, el1, tw1, hok, hfit _ _ _ _ hg rfl rfl, by omega, fun v H3 hN3 tv b3 k3 => fin v H3 hN3 tv b3 k3⟩
    | less =>
      rw [hbeh] at fin
      have epa' : H1 pa = some (.tup [.str "less", y, z]) := epa
      clear epa
      walk_at "gg"
      exact ⟨O, A, P, rows, cl, .less, p + 1, p + 1 + c.size, ts, il, t, l, us, ws, rfl, hN1, rfl, eil, ⟨h0, h1⟩, et1, el1, tw1, hok, hfit _ _ _ _ hg rfl rfl, by omega, fun v H3 hN3 tv b3 k3 => fin v H3 hN3 tv b3 k3⟩
    | times =>
      rw [hbeh] at fin
      have epa' : H1 pa = some (.tup [.str "times", y, z]) := epa
      clear epa
      walk_at "gg"
      exact ⟨O, A, P, rows, cl, .times, p + 1, p + 1 + c.size, ts, il, t, l, us, ws, rfl, hN1, rfl, eil, ⟨h0, h1⟩, et1, el1, tw1, hok, hfit _ _ _ _ hg rfl rfl, by omega, fun v H3 hN3 tv b3 k3 => fin v H3 hN3 tv b3 k3⟩
    | below =>
      rw [hbeh] at fin
      have epa' : H1 pa = some (.tup [.str "below", y, z]) := epa
      clear epa
      walk_at "gg"
      exact ⟨O, A, P, rows, cl, .below, p + 1, p + 1 + c.size, ts, il, t, l, us, ws, rfl, hN1, rfl, eil, ⟨h0, h1⟩, et1, el1, tw1, hok, hfit _ _ _ _ hg rfl rfl, by omega, fun v H3 hN3 tv b3 k3 => fin v H3 hN3 tv b3 k3⟩
  | whn c d e =>
    have hk0 : gi = [p + 1, p + 1 + c.size, p + 1 + c.size + d.size] := hin
    subst hk0
    rw [hbeh] at fin
    have h0 := hsub (p + 1) (by simp)
    have h1 := hsub (p + 1 + c.size) (by simp)
    have h2 := hsub (p + 1 + c.size + d.size) (by simp)
    have epa' : H1 pa = some (.tup (.str "when" :: xs)) := epa
    clear epa
    walk_at "gg"
    exact ⟨O, A, P, rows, cl, p + 1, p + 1 + c.size, p + 1 + c.size + d.size, ts, il, t, l, us, ws, rfl, hN1, eil, ⟨h0, h1, h2⟩, et1, el1, tw1, nl, by omega, fun v H3 hN3 tv b3 k3 => fin v H3 hN3 tv b3 k3⟩
  | letp r c =>
    rw [hbeh] at fin
    have hk0 : gi = placesOf (r.parts ++ [c]) (p + 1) := hin
    have hlast : gi[r.parts.length]? = some (p + 1 + sz r.parts) := by
      rw [hk0, placesOf_app, List.getElem?_append_right (by rw [placesOf_len]; exact Nat.le_refl _), placesOf_len, Nat.sub_self]
      rfl
    have hbl : behG P rows cl p ts ws ⟨.letp r c, gi, gn⟩ = (passN (seenP P rows cl (gi.getD r.parts.length 0) ts).1 ws, (seenP P rows cl (gi.getD r.parts.length 0) ts).2) := rfl
    rw [getD_at hlast] at hbl
    rw [hbl] at fin
    have h0 := hsub _ (List.mem_of_getElem? hlast)
    have epa' : H1 pa = some (.tup (.str "let" :: xs)) := epa
    clear epa
    have hgi : gi = placesOf r.parts (p + 1) ++ [p + 1 + sz r.parts] := by rw [hk0, placesOf_app]; rfl
    have eil' : H1 il = some (.lst (nInts (placesOf r.parts (p + 1)) ++ [.int ((p + 1 + sz r.parts : Nat) : Int)])) := by rw [eil, hgi, nInts_app]; rfl
    walk_at "gg"
    refine g_ixL (.of eil') (atI_last _ _) ?_
    walk_at "gg"
    refine seenP_mk hN1 et1 h0 (by omega) fun H2 hN2 b2 k2 => ?_
    walk_at "gg"
    refine ⟨_, l, us, ws, rfl, b2 _ _ nl el1, tw1.mono k2, fun v H3 tv s3 => ?_⟩
    exact fin v H3 (hN2.same s3) tv (b2.trans (NBut.same s3)) (k2.trans (Same.tk s3))
  | shut c => exact hgok.elim
end

/-! ### the law's own: what comes of a node, all that is seen first -/
def kvRN (n m : Int) : List (Key × V) := [(.inr "plus", .int (n + m)), (.inr "less", .int (n - m)), (.inr "times", .int (n * m)), (.inr "below", .int (if n < m then 1 else 0))]
theorem kvRN_at {k : K2} (hk : k.op = true) (n m : Int) : valV (kvRN n m) (.inr k.word) = some (.int (reck k n m)) := by
  cases k with
  | give => cases hk
  | pair => cases hk
  | plus => rfl
  | less => rfl
  | times => rfl
  | below => rfl
def passA (c : Bool) (i : Int) : List Wo → An
  | [] => if c then .call i else .need i
  | w :: _ => .worth w
def callWord (c : Bool) : Str := if c then "call" else "need"
def twoN (k : K2) (a : Int) : Wo → An
  | .num b => if (reck k a b).natAbs < 10 ^ 60 then .worth (.num (reck k a b)) else .fault "great"
  | _ => .fault "number"
section
variable {K : PySem.W.Frag} {w : World}
def spLPassed : Sp := fun vs H Q _ => ∃ (c : Bool) (i : Int) (l : Addr) (us : List V) (ws : List Wo), vs = [.str (callWord c), .int i, .ref l] ∧ H l = some (.lst us) ∧ Wos H us ws ∧ ∀ v H', Tp H' v (passA c i ws).data → Same H H' → Q v H'
theorem pure_lpassed : PureOk 3 spLPassed (t_law_passed K w) 3 := by
  refine ⟨fun vs H Q E ⟨_, _, _, _, _, e, _⟩ => by rw [e]; rfl, ?_⟩
  rintro vs H Q E ⟨c, i, l, us, ws, rfl, el, tw, q⟩
  show t_law_passed K w _ [some (.str (callWord c)), some (.int i), some (.ref l)] H
  unfold t_law_passed
  walk_at "gg"
  rename_i l1 H1 n1 e1 s1
  cases ws with
  | nil =>
    rw [tw.nil_inv]
    refine g_T rfl ?_
    walk_at "gg"
    rename_i a H2 na ea s2
    refine q _ H2 ?_ (s1.trans s2)
    cases c with
    | true => exact .tup ea (.cons (.str _) (.one (.int _)))
    | false => exact .tup ea (.cons (.str _) (.one (.int _)))
  | cons w0 ws =>
    obtain ⟨u, us', rfl, tu, tus⟩ := Tps.cons_inv (ds := ws.map Wo.data) tw
    refine g_F rfl ?_
    walk_at "gg"
    rename_i a H2 na ea s2
    exact q _ H2 (.tup ea (.cons (.str _) (.one (tu.mono (Same.tk (s1.trans s2)))))) (s1.trans s2)
def spLTwo : Sp := fun vs H Q _ => ∃ (k : K2) (a : Int) (w1 : Wo) (u v : V), vs = [.str k.word, u, v] ∧ k.op = true ∧ a.natAbs < 10 ^ 60 ∧ Tp H u (Wo.num a).data ∧ Tp H v w1.data ∧ (∀ b, w1 = .num b → b.natAbs < 10 ^ 60) ∧ ∀ r H', Tp H' r (twoN k a w1).data → Same H H' → Q r H'
theorem pure_ltwo : PureOk 3 spLTwo (t_law_two K w) 6 := by
  refine ⟨fun vs H Q E ⟨_, _, _, _, _, e, _⟩ => by rw [e]; rfl, ?_⟩
  rintro vs H Q E ⟨k, n, w1, u, v, rfl, hk, hn, tu, tv, hw, q⟩
  show t_law_two K w _ [some (.str k.word), some u, some v, none, none, none] H
  unfold t_law_two
  obtain ⟨a, rfl, ea⟩ := tu.wnum
  cases w1 with
  | pair c d =>
    obtain ⟨b, rfl, eb⟩ := tv.wpair
    clear hn hw
    walk_at "gg"
    rename_i a3 H3 n3 e3 s3
    exact q _ H3 (.tup e3 (.cons (.str _) (.one (.str _)))) s3
  | fn f gv =>
    obtain ⟨b, c, rfl, eb, _⟩ := tv.wfn
    clear hn hw
    walk_at "gg"
    rename_i a3 H3 n3 e3 s3
    exact q _ H3 (.tup e3 (.cons (.str _) (.one (.str _)))) s3
  | num m =>
    obtain ⟨b, rfl, eb⟩ := tv.wnum
    have hm := hw m rfl
    have l1 := small_log hm
    have l2 := small_log hn
    clear hm hn hw
    walk_at "gg"
    refine ⟨_, _, rfl, ?_⟩
    walk_at "gg"
    rename_i d H1 n1 e1 s1
    refine .inr ⟨n, m, rfl, rfl, by show _ + _ < 1000000; omega, ?_⟩
    walk_at "gg"
    have hb : (if decide (n < m) = true then (1 : Int) else 0) = if n < m then 1 else 0 := by
      by_cases h : n < m
      · rw [if_pos (decide_eq_true h), if_pos h]
      · rw [if_neg (by rw [decide_eq_false h]; decide), if_neg h]
    rw [hb]
    refine g_pairs (kvRN n m) e1 rfl (show 4 ≤ 15 by decide) ?_
    walk_at "gg"
    rename_i H4 e4 c4
    have e4' : H4 d = some (.dK (kvRN n m)) := e4
    have s4 : Same H H4 := fun b o e => c4 _ _ (ne_of_none e n1) (s1 _ _ e)
    clear e4 c4 s1 n1 hb
    refine g_ixD e4' (k := .inr k.word) rfl (kvRN_at hk n m) ?_
    walk_at "gg"
    refine g_powI ⟨by decide, by decide, by decide⟩ ?_
    walk_at "gg"
    have e : decide ((10 : Int) ^ Int.toNat 60 ≤ ((reck k n m).natAbs : Int)) = !decide ((reck k n m).natAbs < 10 ^ 60) := by
      have : (10 : Int) ^ Int.toNat 60 = ((10 ^ 60 : Nat) : Int) := by rfl
      rw [this]
      by_cases h : (reck k n m).natAbs < 10 ^ 60
      · rw [decide_eq_true h, decide_eq_false]; · rfl
        intro h2
        exact absurd (Int.ofNat_le.mp h2) (Nat.not_le.mpr h)
      · rw [decide_eq_false h, decide_eq_true]; · rfl
        exact Int.ofNat_le.mpr (Nat.not_lt.mp h)
    rw [e]
    have htw : twoN k n (.num m) = if (reck k n m).natAbs < 10 ^ 60 then .worth (.num (reck k n m)) else .fault "great" := rfl
    by_cases hs : (reck k n m).natAbs < 10 ^ 60
    · rw [if_pos hs] at htw
      rw [htw] at q
      rw [decide_eq_true hs]
      clear hs e htw
      walk_at "gg"
      rename_i a5 H5 n5 e5 s5 a6 H6 n6 e6 s6
      exact q _ H6 (.tup e6 (.cons (.str _) (.one (.tup (s6 _ _ e5) (.cons (.str _) (.one (.int _))))))) (s4.trans (s5.trans s6))
    · rw [if_neg hs] at htw
      rw [htw] at q
      rw [decide_eq_false hs]
      clear hs e htw
      walk_at "gg"
      rename_i a5 H5 n5 e5 s5
      exact q _ H5 (.tup e5 (.cons (.str _) (.one (.str _)))) (s4.trans s5)
/-- a function that is given one thing more -/
def lgivenN (P : Prog) (rows : List NRow) (cl : Bool) (f : Str) (gv : List Int) (x : Int) (r : List Wo) : An × List NRow :=
  if (gv ++ [x]).length < (P.door f).2 then (.worth (.fn f (gv ++ [x])), rows)
  else (passA true (nodeN rows cl (((P.door f).1 : Nat), gv ++ [x])).1 r, (nodeN rows cl (((P.door f).1 : Nat), gv ++ [x])).2)
def lgiveN (P : Prog) (rows : List NRow) (cl : Bool) (x : Int) (r : List Wo) : Wo → An × List NRow
  | .fn f gv => lgivenN P rows cl f gv x r
  | _ => (.fault "function", rows)
def spLGiven (w : World) : Sp := fun vs H Q _ => ∃ (O : Addr → Prop) (gl : Addr) (P : Prog) (B : LT) (rows : List NRow) (cl : Bool) (u : V) (w0 : Wo) (x : Int) (l : Addr) (us : List V) (ws : List Wo), vs = [.ref gl, .ref B.t, u, .int x, .ref l] ∧ GrAt O H gl P ∧ P.fine ∧ LTabAt w H B rows cl ∧ Tp H u w0.data ∧ WoOk P w0 ∧
  H l = some (.lst us) ∧ Wos H us ws ∧ l ∉ [B.lk, B.dn] ∧ rows.length < 14000000 ∧ ∀ v H', LTabAt w H' B (lgiveN P rows cl x ws w0).2 cl → Tp H' v (lgiveN P rows cl x ws w0).1.data → NBut [B.lk, B.dn] H H' → Tk H H' → Q v H'
theorem door_le {P : Prog} (hF : P.fine) (f : Str) : (P.door f).2 ≤ 4 := by
  unfold Prog.door
  dsimp only
  cases e : P.rowsG[P.names.idxOf f]? with
  | none => exact Nat.zero_le _
  | some qq => exact (rowsG_fine hF qq (List.mem_of_getElem? e)).2
theorem pure_lgiven : PureOk 5 (spLGiven w) (t_law_given K w spLPassed (spLNode w)) 8 := by
  refine ⟨fun vs H Q E ⟨_, _, _, _, _, _, _, _, _, _, _, _, e, _⟩ => by rw [e]; rfl, ?_⟩
  rintro vs H Q E ⟨O, gl, P, B, rows, cl, u, w0, x, l, us, ws, rfl, hG, hF, hT, tu, hw0, el, tw, nl, hl, q⟩
  show t_law_given K w _ _ _ [some (.ref gl), some (.ref B.t), some u, some (.int x), some (.ref l), none, none, none] H
  unfold t_law_given
  walk_at "gg"
  refine g_wword tu ?_
  walk_at "gg"
  cases w0 with
  | num n =>
    refine g_T (by show (!decide (("number" : Str) = "function")) = true; decide +kernel) ?_
    walk_at "gg"
    rename_i a3 H3 n3 e3 s3
    exact q _ H3 (hT.same s3) (.tup e3 (.cons (.str _) (.one (.str _)))) (NBut.same s3) (Same.tk s3)
  | pair c d =>
    refine g_T (by show (!decide (("pair" : Str) = "function")) = true; decide +kernel) ?_
    walk_at "gg"
    rename_i a3 H3 n3 e3 s3
    exact q _ H3 (hT.same s3) (.tup e3 (.cons (.str _) (.one (.str _)))) (NBut.same s3) (Same.tk s3)
  | fn f gv =>
    refine g_F (by show (!decide (("function" : Str) = "function")) = false; decide +kernel) ?_
    obtain ⟨a, b, rfl, ea, eb⟩ := tu.wfn
    obtain ⟨hf, hgl⟩ := hw0
    have d4 := door_le hF f
    obtain ⟨g, dd, us0, e1, e2, h1, ⟨kvs, ed, hkl, hk⟩, o1, o2, o3⟩ := hG.ex
    obtain ⟨dt, hd1, hd2⟩ := hk f hf
    walk_at "gg"
    rename_i c3 H3 n3 e3 s3
    refine g_addTn (s3 _ _ eb) e3 (by rw [List.length_map]; show _ + 1 ≤ 16777216; omega) (by simp) fun g4 H4 e4 s4 => ?_
    have s04 := s3.trans s4
    have e4' : H4 g4 = some (.tup ((gv ++ [x]).map V.int)) := by rw [e4, List.map_append]; rfl
    have hT4 := hT.same s04
    have e14 := s04 _ _ e1
    have ed4 := s04 _ _ ed
    have ea4 := s04 _ _ ea
    have hd4 := s04 _ _ hd2
    walk_at "gg"
    refine g_ixD ed4 (k := .inr f) rfl hd1 ?_
    refine g_un2 hd4 ?_
    walk_at "gg"
    have hge : lgiveN P rows cl x ws (.fn f gv) = lgivenN P rows cl f gv x ws := rfl
    rw [hge] at q
    by_cases hlt : (gv ++ [x]).length < (P.door f).2
    · have h5 : lgivenN P rows cl f gv x ws = (.worth (.fn f (gv ++ [x])), rows) := by unfold lgivenN; rw [if_pos hlt]
      rw [h5] at q
      refine g_T (decide_eq_true (by simp only [List.length_append, List.length_map, List.length_singleton, List.length_cons, List.length_nil] at hlt ⊢; omega)) ?_
      walk_at "gg"
      rename_i c6 H6 n6 e6 s6 c7 H7 n7 e7 s7
      exact q _ H7 (hT4.same (s6.trans s7)) (.tup e7 (.cons (.str _) (.one (.tup (s7 _ _ e6) (.cons (.str _) (.cons (.str _) (.one (.tup (s7 _ _ (s6 _ _ e4')) (Tps.ints _))))))))) (NBut.same (s04.trans (s6.trans s7))) (Same.tk (s04.trans (s6.trans s7)))
    · have h5 : lgivenN P rows cl f gv x ws = (passA true (nodeN rows cl (((P.door f).1 : Nat), gv ++ [x])).1 ws, (nodeN rows cl (((P.door f).1 : Nat), gv ++ [x])).2) := by unfold lgivenN; rw [if_neg hlt]
      rw [h5] at q
      refine g_F (decide_eq_false (by simp only [List.length_append, List.length_map, List.length_singleton, List.length_cons, List.length_nil] at hlt ⊢; omega)) ?_
      walk_at "gg"
      refine ⟨B, rows, cl, _, _, g4, rfl, hT4, e4', by omega, fun H5 hT5 b5 k5 => ?_⟩
      have el5 := b5 _ _ nl (s04 _ _ el)
      walk_at "gg"
      refine ⟨true, _, l, us, ws, rfl, el5, tw.mono ((Same.tk s04).trans k5), fun v H6 tv s6 => ?_⟩
      exact q v H6 (hT5.same s6) tv ((NBut.same s04).trans (b5.trans (NBut.same s6))) ((Same.tk s04).trans (k5.trans (Same.tk s6)))
end

/-! ### the law's own: what comes of any node -/
def seenAll (P : Prog) (cl : Bool) (ts : List Int) : List NRow → List Nat → List Int × List NRow
  | rows, [] => ([], rows)
  | rows, q :: qs => ((seenP P rows cl q ts).1 :: (seenAll P cl ts (seenP P rows cl q ts).2 qs).1, (seenAll P cl ts (seenP P rows cl q ts).2 qs).2)
theorem seenAll_snoc {P : Prog} {cl : Bool} {ts : List Int} : ∀ (rows : List NRow) (qs : List Nat) (q : Nat), seenAll P cl ts rows (qs ++ [q]) = ((seenAll P cl ts rows qs).1 ++ [(seenP P (seenAll P cl ts rows qs).2 cl q ts).1], (seenP P (seenAll P cl ts rows qs).2 cl q ts).2)
  | rows, [], q => rfl
  | rows, a :: qs, q => by
    show (_ :: (seenAll P cl ts _ (qs ++ [q])).1, (seenAll P cl ts _ (qs ++ [q])).2) = _
    rw [seenAll_snoc _ qs q]
    rfl
theorem seenAll_len {P : Prog} {cl : Bool} {ts : List Int} : ∀ (rows : List NRow) (qs : List Nat), (seenAll P cl ts rows qs).1.length = qs.length ∧ (seenAll P cl ts rows qs).2.length ≤ rows.length + qs.length
  | rows, [] => ⟨rfl, Nat.le_refl _⟩
  | rows, q :: qs => by
    obtain ⟨h1, h2⟩ := seenAll_len (P := P) (cl := cl) (ts := ts) (seenP P rows cl q ts).2 qs
    have h3 := seenP_len (P := P) (rows := rows) (cl := cl) (q := q) (ts := ts)
    refine ⟨congrArg (· + 1) h1, ?_⟩
    show (seenAll P cl ts (seenP P rows cl q ts).2 qs).2.length ≤ rows.length + (qs.length + 1)
    omega
def lsideN (k : K1) (rows : List NRow) (r : List Wo) : Wo → An × List NRow
  | .pair a b => (passA false (sideOf k a b) r, rows)
  | _ => (.fault "pair", rows)
def lwhenN (S : List Int) (rows : List NRow) (r : List Wo) : Wo → An × List NRow
  | .num n => (passA false (S.getD (if n = 0 then 2 else 1) 0) r, rows)
  | _ => (.fault "number", rows)
def lopN (k : K2) (S : List Int) (rows : List NRow) (r : List Wo) : Wo → An × List NRow
  | .num a => match r with
    | [] => (.need (S.getD 1 0), rows)
    | w1 :: _ => (twoN k a w1, rows)
  | _ => (.fault "number", rows)
def needOr (S : List Int) (rows : List NRow) (f : Wo → List Wo → An × List NRow) : List Wo → An × List NRow
  | [] => (.need (S.getD 0 0), rows)
  | w :: r => f w r
/-- by what was seen (numbers S, the table rows) -/
def lbehS (P : Prog) (cl : Bool) (p : Nat) (ts : List Int) (ws : List Wo) (S : List Int) (rows : List NRow) (g : Gd) : An × List NRow :=
  match g.part with
  | .num n => (.worth (.num n), rows)
  | .two .pair _ _ => (.worth (.pair (S.getD 0 0) (S.getD 1 0)), rows)
  | .name _ => (passA false (seenP P rows cl p ts).1 ws, (seenP P rows cl p ts).2)
  | .letp r _ => (passA false (S.getD r.parts.length 0) ws, rows)
  | .fn f => if 0 < (P.door f).2 then (.worth (.fn f []), rows) else (passA true (nodeN rows cl (((P.door f).1 : Nat), [])).1 ws, (nodeN rows cl (((P.door f).1 : Nat), [])).2)
  | .two .give _ _ => needOr S rows (fun w r => lgiveN P rows cl (S.getD 1 0) r w) ws
  | .one k _ => needOr S rows (fun w r => lsideN k rows r w) ws
  | .whn _ _ _ => needOr S rows (fun w r => lwhenN S rows r w) ws
  | .two k _ _ => needOr S rows (fun w r => lopN k S rows r w) ws
  | .shut _ => (.fault "number", rows)
def lbehG (P : Prog) (rows : List NRow) (cl : Bool) (p : Nat) (ts : List Int) (ws : List Wo) (g : Gd) : An × List NRow :=
  lbehS P cl p ts ws (seenAll P cl ts rows g.inner).1 (seenAll P cl ts rows g.inner).2 g
def lbehN (P : Prog) (rows : List NRow) (cl : Bool) (p : Nat) (ts : List Int) (ws : List Wo) : An × List NRow :=
  match P.gds[p]? with
  | none => (.fault "number", rows)
  | some g => lbehG P rows cl p ts ws g
theorem lbehN_at {P : Prog} {rows : List NRow} {cl : Bool} {p : Nat} {ts : List Int} {ws : List Wo} {g : Gd} (h : P.gds[p]? = some g) : lbehN P rows cl p ts ws = lbehG P rows cl p ts ws g := by unfold lbehN; rw [h]
section
variable {K : PySem.W.Frag} {w : World} {H : Hp} {Q : VK} {E : XK} {O : Addr → Prop} {B : LT} {P : Prog} {rows : List NRow} {cl : Bool} {ts : List Int} {t gl : Addr} {q : Nat}
theorem lseenP_mk (hG : GrAt O H gl P) (hT : LTabAt w H B rows cl) (et : H t = some (.tup (ts.map V.int))) (hq : (sizesL (allFn P))[q]? = some ts.length) (hl : rows.length < 16000000)
    (q' : ∀ H', LTabAt w H' B (seenP P rows cl q ts).2 cl → NBut [B.lk, B.dn] H H' → Tk H H' → Q (.int (seenP P rows cl q ts).1) H') : spLSeen w [.ref gl, .ref B.t, .int (q : Nat), .ref t] H Q E := by
  have hlt : q < P.gds.length := by rw [gds_length]; exact (List.getElem?_eq_some_iff.mp hq).1
  have hg : P.gds[q]? = some P.gds[q] := List.getElem?_eq_getElem hlt
  have e : seenP P rows cl q ts = seenN P.gds[q] rows cl (q : Nat) ts := by unfold seenP; rw [hg]
  rw [e] at q'
  exact ⟨O, gl, P, B, rows, cl, q, ts, t, _, rfl, hG, hT, et, hg, seen_ok hg hq, hl, q'⟩
theorem sInts_at {S : List Int} {i : Nat} (h : i < S.length) : (S.map V.int)[i]? = some (.int (S.getD i 0)) := by
  rw [List.getElem?_map, List.getElem?_eq_getElem h, List.getD_eq_getElem?_getD, List.getElem?_eq_getElem h]
  rfl
theorem ltab_free {l : Addr} (hT : LTabAt w H B rows cl) (n : H l = none) : l ∉ [B.lk, B.dn] := fun z => by
  obtain ⟨_, ⟨as, x1, x2, x3⟩, _⟩ := hT
  simp only [List.mem_cons, List.not_mem_nil, or_false] at z
  rcases z with rfl | rfl
  · rw [x1] at n; cases n
  · rcases x3.at_ with e | ⟨_, e⟩ <;> rw [e] at n <;> cases n
def spLBehind (w : World) : Sp := fun vs H Q _ => ∃ (O : Addr → Prop) (gl : Addr) (P : Prog) (B : LT) (rows : List NRow) (cl : Bool) (n p : Nat) (ts : List Int) (l : Addr) (us : List V) (ws : List Wo), vs = [.ref gl, .ref B.t, .int (n : Nat), .ref l] ∧ GrAt O H gl P ∧ P.fine ∧ LTabAt w H B rows cl ∧ (∀ m ∈ [B.lk, B.dn], ¬ O m) ∧ rows[n]? = some (((p : Nat) : Int), ts) ∧
  (sizesL (allFn P))[p]? = some ts.length ∧ H l = some (.lst us) ∧ Wos H us ws ∧ (∀ w0 ∈ ws, WoOk P w0) ∧ wsFit P p ws ∧ l ∉ [B.lk, B.dn] ∧ rows.length < 13000000 ∧
  ∀ v H', LTabAt w H' B (lbehN P rows cl p ts ws).2 cl → Tp H' v (lbehN P rows cl p ts ws).1.data → NBut [B.lk, B.dn] H H' → Tk H H' → Q v H'
theorem pure_lbehind : PureOk 4 (spLBehind w) (t_law_behind K w (spLSeen w) spLPassed (spLNode w) (spLGiven w) spLTwo) 15 := by
  refine ⟨fun vs H Q E ⟨_, _, _, _, _, _, _, _, _, _, _, _, e, _⟩ => by rw [e]; rfl, ?_⟩
  rintro vs H Q E ⟨O, gl, P, B, rows, cl, n, p, ts, l, us, ws, rfl, hG, hF, hT, hB, hr, hsz, el, tw, hok, hfit, nl, hl, q⟩
  show t_law_behind K w _ _ _ _ _ _ [some (.ref gl), some (.ref B.t), some (.int (n : Nat)), some (.ref l), none, none, none, none, none, none, none, none, none, none, none] H
  unfold t_law_behind
  have hlt : p < P.gds.length := by rw [gds_length]; exact (List.getElem?_eq_some_iff.mp hsz).1
  obtain ⟨g, hg⟩ : ∃ g, P.gds[p]? = some g := ⟨_, List.getElem?_eq_getElem hlt⟩
  have hgo := gd_ok hF hg hsz
  have hbeh := lbehN_at (rows := rows) (cl := cl) (ts := ts) (ws := ws) hg
  obtain ⟨obt, ⟨as, e1, e2, e3⟩, ne⟩ := id hT
  obtain ⟨a, ha, ra⟩ := paired_at e2 hr
  obtain ⟨t, ea, et⟩ := ra
  dsimp only at ea et
  obtain ⟨g0, dd, us0, eg1, eg2, hgds, hdrs, o1, o2, o3⟩ := id hG.ex
  obtain ⟨v, hv, b, il, pu, nv, rfl, eb, tu, ol, eil, tn⟩ := paired_at hgds hg
  obtain ⟨gp, gi, gn⟩ := g
  obtain ⟨hin, hsub, sc, hgok⟩ := hgo
  dsimp only at hin hsub hgok eil tu
  obtain ⟨pa, xs, rfl, epa, txs⟩ := tu.part
  walk_at "gg"
  refine g_ixL (.of e1) (atI_nat (by rw [List.getElem?_map, ha]; rfl)) ?_
  refine g_un2 ea ?_
  walk_at "gg"
  refine g_ixL (.of eg2) (atI_nat hv) ?_
  refine g_un3 eb ?_
  walk_at "gg"
  refine g_seqL ?_
  walk_at "gg"
  have hgil : gi.length ≤ 100000 := by
    have h0 : gi.length ≤ (sizesL (allFn P)).length := by
      have h1 := gp.sz_kids
      have h2 := sz_len gp.kids
      rw [hin, placesOf_len]
      have h3 := hgds
      obtain ⟨k, fn, h4, h5, h6, h7, h8⟩ := place_at (P := P) (p := p) (by rw [← gds_length]; exact hlt)
      rw [h7] at hg
      obtain ⟨_, h9, _⟩ := gds_inner _ _ _ _ (Nat.le_refl _) _ _ hg
      have h10 := bodies_take_lt h4
      dsimp only at h9
      rw [← gds_length]
      omega
    have := sizes_total hF
    omega
  intro D hD
  have hSl : ∀ i, i ≤ gi.length → (seenAll P cl ts rows (gi.take i)).2.length ≤ rows.length + gi.length := fun i hi => by
    have h := (seenAll_len (P := P) (cl := cl) (ts := ts) rows (gi.take i)).2
    rw [List.length_take] at h
    omega
  refine lc_any gi.length (fun i acc H' => acc = ((seenAll P cl ts rows (gi.take i)).1).map V.int ∧ LTabAt w H' B (seenAll P cl ts rows (gi.take i)).2 cl ∧ NBut [B.lk, B.dn] H H' ∧ Tk H H' ∧ D ∉ [B.lk, B.dn]) hD
    (fun H' _ s => ⟨by rw [List.take_zero]; rfl, by rw [List.take_zero]; exact hT.same s, NBut.same s, Same.tk s, fun z => by
      simp only [List.mem_cons, List.not_mem_nil, or_false] at z
      rcases z with rfl | rfl
      · rw [e1] at hD; cases hD
      · rcases e3.at_ with e | ⟨_, e⟩ <;> rw [e] at hD <;> cases hD⟩)
    (fun i acc H' hi ⟨_, _, bb, _, _⟩ => ⟨_, _, .of (bb _ _ (fun z => hB _ z ol) eil), List.getElem?_eq_getElem (by rw [List.length_map, List.length_map]; exact hi)⟩) (fun acc H' ⟨_, _, bb, _, _⟩ => ⟨_, .of (bb _ _ (fun z => hB _ z ol) eil), by rw [List.length_map, List.length_map]; exact Nat.le_refl _⟩) ?_ ?_
  · rintro i x acc _ H4 hi hla ⟨rfl, hT4, b4, k4, nD⟩ hd4 ⟨rfl, hx⟩
    have hx' := hx _ (.of (b4 _ _ (fun z => hB _ z ol) eil))
    obtain ⟨qi, hqi⟩ : ∃ qi, gi[i]? = some qi := ⟨_, List.getElem?_eq_getElem hi⟩
    have hx2 := nInts_at hqi
    have hx3 : (nInts gi)[i]? = some x := hx'
    rw [hx2] at hx3
    cases hx3
    have hq := hsub qi (List.mem_of_getElem? hqi)
    have hG4 := hG.mono (fun c o oc e => b4 c o (fun z => hB _ z oc) e) k4
    refine g_name rfl ⟨rfl, ?_⟩
    walk_at "gg"
    refine lseenP_mk hG4 hT4 (k4 _ _ et) hq (by have := hSl i (by omega); omega) fun H5 hT5 b5 k5 => ?_
    have hd5 := b5 _ _ nD hd4
    refine lc_step hd5 hla (by show _ < 16777216; omega) fun H6 e6 c6 => ?_
    have htk : gi.take (i + 1) = gi.take i ++ [qi] := by rw [List.take_add_one, hqi]; rfl
    have k6 : Tk H5 H6 := c6.tkl hd5
    have nDt : D ≠ B.t := ne_of_none obt hD |>.symm
    simp only [List.mem_cons, List.not_mem_nil, or_false, not_or] at nD
    refine ⟨?_, ?_, (b4.trans b5).fresh hD c6, k4.trans (k5.trans k6), by simp only [List.mem_cons, List.not_mem_nil, or_false, not_or]; exact nD⟩
    · rw [htk, seenAll_snoc, List.map_append]
      rfl
    · rw [htk, seenAll_snoc]
      exact hT5.but (M := [D]) (NBut.chg c6 (by simp)) k6 fun m hm => by rw [List.mem_singleton.mp hm]; exact ⟨nDt, nD.1, nD.2⟩
  rintro acc H5 ed5 ⟨rfl, hT5, b5, k5, nD⟩
  rw [List.take_length] at ed5 hT5
  obtain ⟨hSL, hSR⟩ := seenAll_len (P := P) (cl := cl) (ts := ts) rows gi
  have hbeh2 : lbehN P rows cl p ts ws = lbehS P cl p ts ws (seenAll P cl ts rows gi).1 (seenAll P cl ts rows gi).2 ⟨gp, gi, gn⟩ := hbeh
  generalize (seenAll P cl ts rows gi).1 = S at ed5 hSL hbeh2
  generalize (seenAll P cl ts rows gi).2 = R5 at hT5 hSR hbeh2
  have el5 := b5 _ _ nl el
  have tw5 := tw.mono k5
  have epa5 := k5 _ _ epa
  have et5 := k5 _ _ et
  have txs5 := txs.mono k5
  have hG5 := hG.mono (fun c o oc e => b5 c o (fun z => hB _ z oc) e) k5
  rw [hbeh2] at q
  have fin : ∀ v H', LTabAt w H' B (lbehS P cl p ts ws S R5 ⟨gp, gi, gn⟩).2 cl → Tp H' v (lbehS P cl p ts ws S R5 ⟨gp, gi, gn⟩).1.data → NBut [B.lk, B.dn] H5 H' → Tk H5 H' → Q v H' := fun v H' a b c d => q v H' a b (b5.trans c) (k5.trans d)
  clear q hT obt e1 e2 e3 eb tu tn epa txs et el tw ea eil hbeh hbeh2 hSl hgds hdrs hG hD
  have s0 : S.length = gi.length := hSL
  have at_ : ∀ i, i < gi.length → (S.map V.int)[i]? = some (.int (S.getD i 0)) := fun i hi => sInts_at (by omega)
  have hbound : R5.length < 13100000 := by omega
  have fault : ∀ (s : Str) (σ : L2.St) (NX : Ends), NX.rt = Q → lbehS P cl p ts ws S R5 ⟨gp, gi, gn⟩ = (.fault s, R5) → (tRet (tTupN (tCons (tC (.str "fault")) (tCons (tC (.str s)) tNil)))) NX σ H5 := by
    intro s σ NX hr hs
    rw [hs] at fin
    refine g_ret ?_
    rw [hr]
    walk_at "gg"
    rename_i a3 H3 n3 e3 s3
    exact fin _ H3 (hT5.same s3) (.tup e3 (.cons (.str _) (.one (.str _)))) (NBut.same s3) (Same.tk s3)
  cases gp with
  | num m =>
    have hs : lbehS P cl p ts ws S R5 ⟨.num m, gi, gn⟩ = (.worth (.num m), R5) := rfl
    rw [hs] at fin
    obtain ⟨y, ys, rfl, ty, ty2⟩ := txs5.cons_inv
    rw [ty.int_inv, ty2.nil_inv] at epa5
    have epa' : H5 pa = some (.tup [.str "number", .int m]) := epa5
    clear epa5
    walk_at "gg"
    rename_i a2 H2 n2 e2 s2 b3 H3 n3 e3 s3 b4 H4 n4 e4 s4
    have s24 := s2.trans (s3.trans s4)
    exact fin _ H4 (hT5.same s24) (.tup e4 (.cons (.str _) (.one (.tup (s4 _ _ e3) (.cons (.str _) (.one (.int _))))))) (NBut.same s24) (Same.tk s24)
  | name x =>
    have hs : lbehS P cl p ts ws S R5 ⟨.name x, gi, gn⟩ = (passA false (seenP P R5 cl p ts).1 ws, (seenP P R5 cl p ts).2) := rfl
    rw [hs] at fin
    have epa' : H5 pa = some (.tup (.str "name" :: xs)) := epa5
    clear epa5
    walk_at "gg"
    rename_i a2 H2 n2 e2 s2 b3 H3 n3 e3 s3
    have s23 := s2.trans s3
    refine lseenP_mk (hG5.mono (fun b o _ e => s23 b o e) (Same.tk s23)) (hT5.same s23) (s23 _ _ et5) hsz (by omega) fun H4 hT4 b4 k4 => ?_
    walk_at "gg"
    refine ⟨false, _, l, us, ws, rfl, b4 _ _ nl (s23 _ _ el5), tw5.mono ((Same.tk s23).trans k4), fun v H6 tv s6 => ?_⟩
    exact fin v H6 (hT4.same s6) tv ((NBut.same s23).trans (b4.trans (NBut.same s6))) ((Same.tk s23).trans (k4.trans (Same.tk s6)))
  | fn f =>
    obtain ⟨y, ys, rfl, ty, ty2⟩ := txs5.cons_inv
    rw [ty.str_inv, ty2.nil_inv] at epa5
    have epa' : H5 pa = some (.tup [.str "fun", .str f]) := epa5
    clear epa5
    have hs : lbehS P cl p ts ws S R5 ⟨.fn f, gi, gn⟩ = if 0 < (P.door f).2 then (.worth (.fn f []), R5) else (passA true (nodeN R5 cl (((P.door f).1 : Nat), [])).1 ws, (nodeN R5 cl (((P.door f).1 : Nat), [])).2) := rfl
    walk_at "gg"
    rename_i a2 H2 n2 e2 s2 b3 H3 n3 e3 s3
    have s23 := s2.trans s3
    have hG3 := hG5.mono (fun b o _ e => s23 b o e) (Same.tk s23)
    obtain ⟨g3, dd3, us3, eg31, eg32, _, ⟨kvs, ed, hkl, hk⟩, _⟩ := hG3.ex
    obtain ⟨dt, hd1, hd2⟩ := hk f (mem_allN hgok.1)
    have el3 := s23 _ _ el5
    have tw3 := tw5.mono (Same.tk s23)
    have hT3 := hT5.same s23
    walk_at "gg"
    refine g_ixD ed (k := .inr f) rfl hd1 ?_
    walk_at "gg"
    by_cases h0 : 0 < (P.door f).2
    · rw [if_pos h0] at hs
      rw [hs] at fin
      refine g_T (decide_eq_true (by omega)) ?_
      walk_at "gg"
      rename_i c4 H4 n4 e4 s4 c5 H6 n6 e6 s6 c7 H7 n7 e7 s7
      have s47 := s4.trans (s6.trans s7)
      exact fin _ H7 (hT3.same s47) (.tup e7 (.cons (.str _) (.one (.tup (s7 _ _ e6) (.cons (.str _) (.cons (.str _) (.one (.tup (s7 _ _ (s6 _ _ e4)) .nil)))))))) (NBut.same (s23.trans s47)) (Same.tk (s23.trans s47))
    · rw [if_neg h0] at hs
      rw [hs] at fin
      refine g_F (decide_eq_false (by omega)) ?_
      walk_at "gg"
      refine g_ixD ed (k := .inr f) rfl hd1 ?_
      walk_at "gg"
      rename_i c4 H4 n4 e4 s4
      walk_at "gg"
      refine ⟨B, R5, cl, _, [], c4, rfl, hT3.same s4, e4, by omega, fun H6 hT6 b6 k6 => ?_⟩
      walk_at "gg"
      refine ⟨true, _, l, us, ws, rfl, b6 _ _ nl (s4 _ _ el3), tw3.mono ((Same.tk s4).trans k6), fun v H7 tv s7 => ?_⟩
      exact fin v H7 (hT6.same s7) tv ((NBut.same (s23.trans s4)).trans (b6.trans (NBut.same s7))) ((Same.tk (s23.trans s4)).trans (k6.trans (Same.tk s7)))
  | letp r c =>
    have hs : lbehS P cl p ts ws S R5 ⟨.letp r c, gi, gn⟩ = (passA false (S.getD r.parts.length 0) ws, R5) := rfl
    rw [hs] at fin
    have epa' : H5 pa = some (.tup (.str "let" :: xs)) := epa5
    clear epa5
    have hgl : gi.length = r.parts.length + 1 := by
      rw [show gi = placesOf (r.parts ++ [c]) (p + 1) from hin, placesOf_len, List.length_append]
      rfl
    have hS2 : S.map V.int = (S.map V.int).dropLast ++ [.int (S.getD r.parts.length 0)] := by
      have hne : S.map V.int ≠ [] := fun z => by
        have := congrArg List.length z
        rw [List.length_map, s0, hgl] at this
        cases this
      conv => lhs; rw [← List.dropLast_concat_getLast hne]
      congr 2
      have h1 := at_ r.parts.length (by omega)
      rw [List.getLast_eq_getElem]
      have h2 : (S.map V.int).length - 1 = r.parts.length := by rw [List.length_map, s0, hgl]; rfl
      have h3 := (List.getElem?_eq_some_iff.mp h1).2
      rw [← h3]
      congr 1
    rw [hS2] at ed5
    walk_at "gg"
    rename_i a2 H2 n2 e2 s2 b3 H3 n3 e3 s3
    have s23 := s2.trans s3
    refine g_ixL (.of (s23 _ _ ed5)) (atI_last _ _) ?_
    walk_at "gg"
    refine ⟨false, _, l, us, ws, rfl, s23 _ _ el5, tw5.mono (Same.tk s23), fun v H6 tv s6 => ?_⟩
    exact fin v H6 (hT5.same (s23.trans s6)) tv (NBut.same (s23.trans s6)) (Same.tk (s23.trans s6))
  | shut c => exact hgok.elim
  | one k c =>
    have hz0 : gi = [p + 1] := hin
    subst hz0
    have hs : lbehS P cl p ts ws S R5 ⟨.one k c, [p + 1], gn⟩ = needOr S R5 (fun w r => lsideN k R5 r w) ws := rfl
    rw [hs] at fin
    have a0 := at_ 0 (Nat.zero_lt_succ _)
    have epa' : H5 pa = some (.tup (.str k.word :: xs)) := epa5
    clear epa5 fault hs at_ s0
    cases ws with
    | nil =>
      have hu := tw5.nil_inv
      subst hu
      cases k with
      | left =>
        walk_at "gg"
        rename_i a2 H2 n2 e2 s2 b3 H3 n3 e3 s3 b4 H4 n4 e4 s4
        have s24 := s2.trans (s3.trans s4)
        refine g_ixL (.of (s24 _ _ ed5)) (atI_of (by decide) a0) ?_
        walk_at "gg"
        rename_i b6 H6 n6 e6 s6
        exact fin _ H6 (hT5.same (s24.trans s6)) (.tup e6 (.cons (.str _) (.one (.int _)))) (NBut.same (s24.trans s6)) (Same.tk (s24.trans s6))
      | right =>
        walk_at "gg"
        rename_i a2 H2 n2 e2 s2 b3 H3 n3 e3 s3 b4 H4 n4 e4 s4
        have s24 := s2.trans (s3.trans s4)
        refine g_ixL (.of (s24 _ _ ed5)) (atI_of (by decide) a0) ?_
        walk_at "gg"
        rename_i b6 H6 n6 e6 s6
        exact fin _ H6 (hT5.same (s24.trans s6)) (.tup e6 (.cons (.str _) (.one (.int _)))) (NBut.same (s24.trans s6)) (Same.tk (s24.trans s6))
    | cons w0 r =>
      obtain ⟨u, us', rfl, tu, tus⟩ := Tps.cons_inv (ds := r.map Wo.data) tw5
      have hs2 : needOr S R5 (fun w r => lsideN k R5 r w) (w0 :: r) = lsideN k R5 r w0 := rfl
      rw [hs2] at fin
      cases k with
      | left =>
        walk_at "gg"
        rename_i a2 H2 n2 e2 s2 b3 H3 n3 e3 s3 b4 H4 n4 e4 s4 b5 H7 n7 e7 s6
        have s7 := s2.trans (s3.trans (s4.trans s6))
        have tu7 := tu.mono (Same.tk s7)
        refine g_wword tu7 ?_
        walk_at "gg"
        cases w0 with
        | pair a b =>
          refine g_T (by show decide (("pair" : Str) = "pair") = true; decide +kernel) ?_
          obtain ⟨ua, rfl, eua⟩ := tu7.wpair
          walk_at "gg"
          show rIxG K w (.ref ua) (.int 1) _ _
          refine g_ixT (.of eua) (atI_of (by decide) rfl) ?_
          walk_at "gg"
          refine g_slL (.of (s7 _ _ el5)) fun l5 H8 n8 e8 s8 => ?_
          rw [cut_tail] at e8
          walk_at "gg"
          refine ⟨false, _, l5, us', r, rfl, e8, tus.mono (Same.tk (s7.trans s8)), fun v H6 tv s6 => ?_⟩
          have s56 := s7.trans (s8.trans s6)
          exact fin v H6 (hT5.same s56) tv (NBut.same s56) (Same.tk s56)
        | num a =>
          refine g_F (by show decide (("number" : Str) = "pair") = false; decide +kernel) ?_
          walk_at "gg"
          rename_i b6 H6 n6 e6 s6
          exact fin _ H6 (hT5.same (s7.trans s6)) (.tup e6 (.cons (.str _) (.one (.str _)))) (NBut.same (s7.trans s6)) (Same.tk (s7.trans s6))
        | fn f gv =>
          refine g_F (by show decide (("function" : Str) = "pair") = false; decide +kernel) ?_
          walk_at "gg"
          rename_i b6 H6 n6 e6 s6
          exact fin _ H6 (hT5.same (s7.trans s6)) (.tup e6 (.cons (.str _) (.one (.str _)))) (NBut.same (s7.trans s6)) (Same.tk (s7.trans s6))
      | right =>
        walk_at "gg"
        rename_i a2 H2 n2 e2 s2 b3 H3 n3 e3 s3 b4 H4 n4 e4 s4 b5 H7 n7 e7 s6
        have s7 := s2.trans (s3.trans (s4.trans s6))
        have tu7 := tu.mono (Same.tk s7)
        refine g_wword tu7 ?_
        walk_at "gg"
        cases w0 with
        | pair a b =>
          refine g_T (by show decide (("pair" : Str) = "pair") = true; decide +kernel) ?_
          obtain ⟨ua, rfl, eua⟩ := tu7.wpair
          walk_at "gg"
          show rIxG K w (.ref ua) (.int 2) _ _
          refine g_ixT (.of eua) (atI_of (by decide) rfl) ?_
          walk_at "gg"
          refine g_slL (.of (s7 _ _ el5)) fun l5 H8 n8 e8 s8 => ?_
          rw [cut_tail] at e8
          walk_at "gg"
          refine ⟨false, _, l5, us', r, rfl, e8, tus.mono (Same.tk (s7.trans s8)), fun v H6 tv s6 => ?_⟩
          have s56 := s7.trans (s8.trans s6)
          exact fin v H6 (hT5.same s56) tv (NBut.same s56) (Same.tk s56)
        | num a =>
          refine g_F (by show decide (("number" : Str) = "pair") = false; decide +kernel) ?_
          walk_at "gg"
          rename_i b6 H6 n6 e6 s6
          exact fin _ H6 (hT5.same (s7.trans s6)) (.tup e6 (.cons (.str _) (.one (.str _)))) (NBut.same (s7.trans s6)) (Same.tk (s7.trans s6))
        | fn f gv =>
          refine g_F (by show decide (("function" : Str) = "pair") = false; decide +kernel) ?_
          walk_at "gg"
          rename_i b6 H6 n6 e6 s6
          exact fin _ H6 (hT5.same (s7.trans s6)) (.tup e6 (.cons (.str _) (.one (.str _)))) (NBut.same (s7.trans s6)) (Same.tk (s7.trans s6))
  | two k c d =>
    obtain ⟨i0, i1, hz0⟩ : ∃ i0 i1, gi = [i0, i1] := ⟨_, _, hin⟩
    have hl2 : gi.length = 2 := by rw [hz0]; rfl
    have a0 := at_ 0 (by omega)
    have a1 := at_ 1 (by omega)
    have hfit' := fun a b h => hfit _ k a b hg h
    have epa' : H5 pa = some (.tup (.str k.word :: xs)) := epa5
    clear epa5 fault at_ s0 hl2 hz0 hin hfit hSR
    cases k with
    | pair =>
      have hs : lbehS P cl p ts ws S R5 ⟨.two .pair c d, gi, gn⟩ = (.worth (.pair (S.getD 0 0) (S.getD 1 0)), R5) := rfl
      rw [hs] at fin
      walk_at "gg"
      rename_i a2 H2 n2 e2 s2
      refine g_ixL (.of (s2 _ _ ed5)) (atI_of (by decide) a0) ?_
      walk_at "gg"
      refine g_ixL (.of (s2 _ _ ed5)) (atI_of (by decide) a1) ?_
      walk_at "gg"
      rename_i b3 H3 n3 e3 s3 b4 H4 n4 e4 s4
      have s24 := s2.trans (s3.trans s4)
      exact fin _ H4 (hT5.same s24) (.tup e4 (.cons (.str _) (.one (.tup (s4 _ _ e3) (.cons (.str _) (.cons (.int _) (.one (.int _)))))))) (NBut.same s24) (Same.tk s24)
    | give =>
      cases ws with
      | nil =>
        have hu := tw5.nil_inv
        subst hu
        have hs2 : lbehS P cl p ts [] S R5 ⟨.two .give c d, gi, gn⟩ = (.need (S.getD 0 0), R5) := rfl
        rw [hs2] at fin
        walk_at "gg"
        rename_i a2 H2 n2 e2 s2 b3 H3 n3 e3 s3 b4 H4 n4 e4 s4
        have s24 := s2.trans (s3.trans s4)
        refine g_ixL (.of (s24 _ _ ed5)) (atI_of (by decide) a0) ?_
        walk_at "gg"
        rename_i b6 H6 n6 e6 s6
        exact fin _ H6 (hT5.same (s24.trans s6)) (.tup e6 (.cons (.str _) (.one (.int _)))) (NBut.same (s24.trans s6)) (Same.tk (s24.trans s6))
      | cons w0 r =>
        obtain ⟨u, us', rfl, tu, tus⟩ := Tps.cons_inv (ds := r.map Wo.data) tw5
        have hs2 : lbehS P cl p ts (w0 :: r) S R5 ⟨.two .give c d, gi, gn⟩ = lgiveN P R5 cl (S.getD 1 0) r w0 := rfl
        rw [hs2] at fin
        walk_at "gg"
        rename_i a2 H2 n2 e2 s2 b3 H3 n3 e3 s3 b4 H4 n4 e4 s4
        have s7 := s2.trans (s3.trans s4)
        refine g_ixL (.of (s7 _ _ ed5)) (atI_of (by decide) a1) ?_
        walk_at "gg"
        refine g_slL (.of (s7 _ _ el5)) fun l5 H8 n8 e8 s8 => ?_
        rw [cut_tail] at e8
        have s78 := s7.trans s8
        have nl5 : l5 ∉ [B.lk, B.dn] := ltab_free (hT5.same s7) n8
        walk_at "gg"
        refine ⟨O, gl, P, B, R5, cl, u, w0, _, l5, us', r, rfl, hG5.mono (fun b o _ e => s78 b o e) (Same.tk s78), hF, hT5.same s78, tu.mono (Same.tk s78), hok w0 (.head _), e8, tus.mono (Same.tk s78), nl5, by omega, fun v H6 hT6 tv b6 k6 => ?_⟩
        exact fin v H6 hT6 tv ((NBut.same s78).trans b6) ((Same.tk s78).trans k6)
    | plus =>
      cases ws with
      | nil =>
        have hu := tw5.nil_inv
        subst hu
        have hs2 : lbehS P cl p ts [] S R5 ⟨.two .plus c d, gi, gn⟩ = (.need (S.getD 0 0), R5) := rfl
        rw [hs2] at fin
        walk_at "gg"
        rename_i a2 H2 n2 e2 s2 b3 H3 n3 e3 s3 b4 H4 n4 e4 s4
        have s24 := s2.trans (s3.trans s4)
        refine g_ixL (.of (s24 _ _ ed5)) (atI_of (by decide) a0) ?_
        walk_at "gg"
        rename_i b6 H6 n6 e6 s6
        exact fin _ H6 (hT5.same (s24.trans s6)) (.tup e6 (.cons (.str _) (.one (.int _)))) (NBut.same (s24.trans s6)) (Same.tk (s24.trans s6))
      | cons w0 r =>
        obtain ⟨u, us', rfl, tu, tus⟩ := Tps.cons_inv (ds := r.map Wo.data) tw5
        walk_at "gg"
        rename_i a2 H2 n2 e2 s2 b3 H3 n3 e3 s3 b4 H4 n4 e4 s4 b5 H7 n7 e7 s6
        have s7 := s2.trans (s3.trans (s4.trans s6))
        have tu7 := tu.mono (Same.tk s7)
        refine g_wword tu7 ?_
        walk_at "gg"
        cases w0 with
        | pair a b =>
          have hs2 : lbehS P cl p ts ((.pair a b) :: r) S R5 ⟨.two .plus c d, gi, gn⟩ = (.fault "number", R5) := rfl
          rw [hs2] at fin
          refine g_T (by show (!decide (("pair" : Str) = "number")) = true; decide +kernel) ?_
          walk_at "gg"
          rename_i b6 H6 n6 e6 s6
          exact fin _ H6 (hT5.same (s7.trans s6)) (.tup e6 (.cons (.str _) (.one (.str _)))) (NBut.same (s7.trans s6)) (Same.tk (s7.trans s6))
        | fn f gv =>
          have hs2 : lbehS P cl p ts ((.fn f gv) :: r) S R5 ⟨.two .plus c d, gi, gn⟩ = (.fault "number", R5) := rfl
          rw [hs2] at fin
          refine g_T (by show (!decide (("function" : Str) = "number")) = true; decide +kernel) ?_
          walk_at "gg"
          rename_i b6 H6 n6 e6 s6
          exact fin _ H6 (hT5.same (s7.trans s6)) (.tup e6 (.cons (.str _) (.one (.str _)))) (NBut.same (s7.trans s6)) (Same.tk (s7.trans s6))
        | num a =>
          refine g_F (by show (!decide (("number" : Str) = "number")) = false; decide +kernel) ?_
          obtain ⟨ua, rfl, eua⟩ := tu7.wnum
          have ho : a.natAbs < 10 ^ 60 := hok (.num a) (.head _)
          cases r with
          | nil =>
            have hu := Tps.nil_inv tus
            subst hu
            have hs2 : lbehS P cl p ts [.num a] S R5 ⟨.two .plus c d, gi, gn⟩ = (.need (S.getD 1 0), R5) := rfl
            rw [hs2] at fin
            walk_at "gg"
            refine g_ixL (.of (s7 _ _ ed5)) (atI_of (by decide) a1) ?_
            walk_at "gg"
            rename_i b6 H6 n6 e6 s6
            exact fin _ H6 (hT5.same (s7.trans s6)) (.tup e6 (.cons (.str _) (.one (.int _)))) (NBut.same (s7.trans s6)) (Same.tk (s7.trans s6))
          | cons w1 r2 =>
            obtain ⟨u1, us2, rfl, tu1, tus1⟩ := Tps.cons_inv (ds := r2.map Wo.data) tus
            have hs2 : lbehS P cl p ts (.num a :: w1 :: r2) S R5 ⟨.two .plus c d, gi, gn⟩ = (twoN .plus a w1, R5) := rfl
            rw [hs2] at fin
            walk_at "gg"
            refine ⟨.plus, a, w1, _, _, rfl, rfl, ho, tu7, tu1.mono (Same.tk s7), fun b e => by have := hok w1 (.tail _ (.head _)); rw [e] at this; exact this, fun v H6 tv s6 => ?_⟩
            exact fin v H6 (hT5.same (s7.trans s6)) tv (NBut.same (s7.trans s6)) (Same.tk (s7.trans s6))
    | less =>
      cases ws with
      | nil =>
        have hu := tw5.nil_inv
        subst hu
        have hs2 : lbehS P cl p ts [] S R5 ⟨.two .less c d, gi, gn⟩ = (.need (S.getD 0 0), R5) := rfl
        rw [hs2] at fin
        walk_at "gg"
        rename_i a2 H2 n2 e2 s2 b3 H3 n3 e3 s3 b4 H4 n4 e4 s4
        have s24 := s2.trans (s3.trans s4)
        refine g_ixL (.of (s24 _ _ ed5)) (atI_of (by decide) a0) ?_
        walk_at "gg"
        rename_i b6 H6 n6 e6 s6
        exact fin _ H6 (hT5.same (s24.trans s6)) (.tup e6 (.cons (.str _) (.one (.int _)))) (NBut.same (s24.trans s6)) (Same.tk (s24.trans s6))
      | cons w0 r =>
        obtain ⟨u, us', rfl, tu, tus⟩ := Tps.cons_inv (ds := r.map Wo.data) tw5
        walk_at "gg"
        rename_i a2 H2 n2 e2 s2 b3 H3 n3 e3 s3 b4 H4 n4 e4 s4 b5 H7 n7 e7 s6
        have s7 := s2.trans (s3.trans (s4.trans s6))
        have tu7 := tu.mono (Same.tk s7)
        refine g_wword tu7 ?_
        walk_at "gg"
        cases w0 with
        | pair a b =>
          have hs2 : lbehS P cl p ts ((.pair a b) :: r) S R5 ⟨.two .less c d, gi, gn⟩ = (.fault "number", R5) := rfl
          rw [hs2] at fin
          refine g_T (by show (!decide (("pair" : Str) = "number")) = true; decide +kernel) ?_
          walk_at "gg"
          rename_i b6 H6 n6 e6 s6
          exact fin _ H6 (hT5.same (s7.trans s6)) (.tup e6 (.cons (.str _) (.one (.str _)))) (NBut.same (s7.trans s6)) (Same.tk (s7.trans s6))
        | fn f gv =>
          have hs2 : lbehS P cl p ts ((.fn f gv) :: r) S R5 ⟨.two .less c d, gi, gn⟩ = (.fault "number", R5) := rfl
          rw [hs2] at fin
          refine g_T (by show (!decide (("function" : Str) = "number")) = true; decide +kernel) ?_
          walk_at "gg"
          rename_i b6 H6 n6 e6 s6
          exact fin _ H6 (hT5.same (s7.trans s6)) (.tup e6 (.cons (.str _) (.one (.str _)))) (NBut.same (s7.trans s6)) (Same.tk (s7.trans s6))
        | num a =>
          refine g_F (by show (!decide (("number" : Str) = "number")) = false; decide +kernel) ?_
          obtain ⟨ua, rfl, eua⟩ := tu7.wnum
          have ho : a.natAbs < 10 ^ 60 := hok (.num a) (.head _)
          cases r with
          | nil =>
            have hu := Tps.nil_inv tus
            subst hu
            have hs2 : lbehS P cl p ts [.num a] S R5 ⟨.two .less c d, gi, gn⟩ = (.need (S.getD 1 0), R5) := rfl
            rw [hs2] at fin
            walk_at "gg"
            refine g_ixL (.of (s7 _ _ ed5)) (atI_of (by decide) a1) ?_
            walk_at "gg"
            rename_i b6 H6 n6 e6 s6
            exact fin _ H6 (hT5.same (s7.trans s6)) (.tup e6 (.cons (.str _) (.one (.int _)))) (NBut.same (s7.trans s6)) (Same.tk (s7.trans s6))
          | cons w1 r2 =>
            obtain ⟨u1, us2, rfl, tu1, tus1⟩ := Tps.cons_inv (ds := r2.map Wo.data) tus
            have hs2 : lbehS P cl p ts (.num a :: w1 :: r2) S R5 ⟨.two .less c d, gi, gn⟩ = (twoN .less a w1, R5) := rfl
            rw [hs2] at fin
            walk_at "gg"
            refine ⟨.less, a, w1, _, _, rfl, rfl, ho, tu7, tu1.mono (Same.tk s7), fun b e => by have := hok w1 (.tail _ (.head _)); rw [e] at this; exact this, fun v H6 tv s6 => ?_⟩
            exact fin v H6 (hT5.same (s7.trans s6)) tv (NBut.same (s7.trans s6)) (Same.tk (s7.trans s6))
    | times =>
      cases ws with
      | nil =>
        have hu := tw5.nil_inv
        subst hu
        have hs2 : lbehS P cl p ts [] S R5 ⟨.two .times c d, gi, gn⟩ = (.need (S.getD 0 0), R5) := rfl
        rw [hs2] at fin
        walk_at "gg"
        rename_i a2 H2 n2 e2 s2 b3 H3 n3 e3 s3 b4 H4 n4 e4 s4
        have s24 := s2.trans (s3.trans s4)
        refine g_ixL (.of (s24 _ _ ed5)) (atI_of (by decide) a0) ?_
        walk_at "gg"
        rename_i b6 H6 n6 e6 s6
        exact fin _ H6 (hT5.same (s24.trans s6)) (.tup e6 (.cons (.str _) (.one (.int _)))) (NBut.same (s24.trans s6)) (Same.tk (s24.trans s6))
      | cons w0 r =>
        obtain ⟨u, us', rfl, tu, tus⟩ := Tps.cons_inv (ds := r.map Wo.data) tw5
        walk_at "gg"
        rename_i a2 H2 n2 e2 s2 b3 H3 n3 e3 s3 b4 H4 n4 e4 s4 b5 H7 n7 e7 s6
        have s7 := s2.trans (s3.trans (s4.trans s6))
        have tu7 := tu.mono (Same.tk s7)
        refine g_wword tu7 ?_
        walk_at "gg"
        cases w0 with
        | pair a b =>
          have hs2 : lbehS P cl p ts ((.pair a b) :: r) S R5 ⟨.two .times c d, gi, gn⟩ = (.fault "number", R5) := rfl
          rw [hs2] at fin
          refine g_T (by show (!decide (("pair" : Str) = "number")) = true; decide +kernel) ?_
          walk_at "gg"
          rename_i b6 H6 n6 e6 s6
          exact fin _ H6 (hT5.same (s7.trans s6)) (.tup e6 (.cons (.str _) (.one (.str _)))) (NBut.same (s7.trans s6)) (Same.tk (s7.trans s6))
        | fn f gv =>
          have hs2 : lbehS P cl p ts ((.fn f gv) :: r) S R5 ⟨.two .times c d, gi, gn⟩ = (.fault "number", R5) := rfl
          rw [hs2] at fin
          refine g_T (by show (!decide (("function" : Str) = "number")) = true; decide +kernel) ?_
          walk_at "gg"
          rename_i b6 H6 n6 e6 s6
          exact fin _ H6 (hT5.same (s7.trans s6)) (.tup e6 (.cons (.str _) (.one (.str _)))) (NBut.same (s7.trans s6)) (Same.tk (s7.trans s6))
        | num a =>
          refine g_F (by show (!decide (("number" : Str) = "number")) = false; decide +kernel) ?_
          obtain ⟨ua, rfl, eua⟩ := tu7.wnum
          have ho : a.natAbs < 10 ^ 60 := hok (.num a) (.head _)
          cases r with
          | nil =>
            have hu := Tps.nil_inv tus
            subst hu
            have hs2 : lbehS P cl p ts [.num a] S R5 ⟨.two .times c d, gi, gn⟩ = (.need (S.getD 1 0), R5) := rfl
            rw [hs2] at fin
            walk_at "gg"
            refine g_ixL (.of (s7 _ _ ed5)) (atI_of (by decide) a1) ?_
            walk_at "gg"
            rename_i b6 H6 n6 e6 s6
            exact fin _ H6 (hT5.same (s7.trans s6)) (.tup e6 (.cons (.str _) (.one (.int _)))) (NBut.same (s7.trans s6)) (Same.tk (s7.trans s6))
          | cons w1 r2 =>
            obtain ⟨u1, us2, rfl, tu1, tus1⟩ := Tps.cons_inv (ds := r2.map Wo.data) tus
            have hs2 : lbehS P cl p ts (.num a :: w1 :: r2) S R5 ⟨.two .times c d, gi, gn⟩ = (twoN .times a w1, R5) := rfl
            rw [hs2] at fin
            walk_at "gg"
            refine ⟨.times, a, w1, _, _, rfl, rfl, ho, tu7, tu1.mono (Same.tk s7), fun b e => by have := hok w1 (.tail _ (.head _)); rw [e] at this; exact this, fun v H6 tv s6 => ?_⟩
            exact fin v H6 (hT5.same (s7.trans s6)) tv (NBut.same (s7.trans s6)) (Same.tk (s7.trans s6))
    | below =>
      cases ws with
      | nil =>
        have hu := tw5.nil_inv
        subst hu
        have hs2 : lbehS P cl p ts [] S R5 ⟨.two .below c d, gi, gn⟩ = (.need (S.getD 0 0), R5) := rfl
        rw [hs2] at fin
        walk_at "gg"
        rename_i a2 H2 n2 e2 s2 b3 H3 n3 e3 s3 b4 H4 n4 e4 s4
        have s24 := s2.trans (s3.trans s4)
        refine g_ixL (.of (s24 _ _ ed5)) (atI_of (by decide) a0) ?_
        walk_at "gg"
        rename_i b6 H6 n6 e6 s6
        exact fin _ H6 (hT5.same (s24.trans s6)) (.tup e6 (.cons (.str _) (.one (.int _)))) (NBut.same (s24.trans s6)) (Same.tk (s24.trans s6))
      | cons w0 r =>
        obtain ⟨u, us', rfl, tu, tus⟩ := Tps.cons_inv (ds := r.map Wo.data) tw5
        walk_at "gg"
        rename_i a2 H2 n2 e2 s2 b3 H3 n3 e3 s3 b4 H4 n4 e4 s4 b5 H7 n7 e7 s6
        have s7 := s2.trans (s3.trans (s4.trans s6))
        have tu7 := tu.mono (Same.tk s7)
        refine g_wword tu7 ?_
        walk_at "gg"
        cases w0 with
        | pair a b =>
          have hs2 : lbehS P cl p ts ((.pair a b) :: r) S R5 ⟨.two .below c d, gi, gn⟩ = (.fault "number", R5) := rfl
          rw [hs2] at fin
          refine g_T (by show (!decide (("pair" : Str) = "number")) = true; decide +kernel) ?_
          walk_at "gg"
          rename_i b6 H6 n6 e6 s6
          exact fin _ H6 (hT5.same (s7.trans s6)) (.tup e6 (.cons (.str _) (.one (.str _)))) (NBut.same (s7.trans s6)) (Same.tk (s7.trans s6))
        | fn f gv =>
          have hs2 : lbehS P cl p ts ((.fn f gv) :: r) S R5 ⟨.two .below c d, gi, gn⟩ = (.fault "number", R5) := rfl
          rw [hs2] at fin
          refine g_T (by show (!decide (("function" : Str) = "number")) = true; decide +kernel) ?_
          walk_at "gg"
          rename_i b6 H6 n6 e6 s6
          exact fin _ H6 (hT5.same (s7.trans s6)) (.tup e6 (.cons (.str _) (.one (.str _)))) (NBut.same (s7.trans s6)) (Same.tk (s7.trans s6))
        | num a =>
          refine g_F (by show (!decide (("number" : Str) = "number")) = false; decide +kernel) ?_
          obtain ⟨ua, rfl, eua⟩ := tu7.wnum
          have ho : a.natAbs < 10 ^ 60 := hok (.num a) (.head _)
          cases r with
          | nil =>
            have hu := Tps.nil_inv tus
            subst hu
            have hs2 : lbehS P cl p ts [.num a] S R5 ⟨.two .below c d, gi, gn⟩ = (.need (S.getD 1 0), R5) := rfl
            rw [hs2] at fin
            walk_at "gg"
            refine g_ixL (.of (s7 _ _ ed5)) (atI_of (by decide) a1) ?_
            walk_at "gg"
            rename_i b6 H6 n6 e6 s6
            exact fin _ H6 (hT5.same (s7.trans s6)) (.tup e6 (.cons (.str _) (.one (.int _)))) (NBut.same (s7.trans s6)) (Same.tk (s7.trans s6))
          | cons w1 r2 =>
            obtain ⟨u1, us2, rfl, tu1, tus1⟩ := Tps.cons_inv (ds := r2.map Wo.data) tus
            have hs2 : lbehS P cl p ts (.num a :: w1 :: r2) S R5 ⟨.two .below c d, gi, gn⟩ = (twoN .below a w1, R5) := rfl
            rw [hs2] at fin
            walk_at "gg"
            refine ⟨.below, a, w1, _, _, rfl, rfl, ho, tu7, tu1.mono (Same.tk s7), fun b e => by have := hok w1 (.tail _ (.head _)); rw [e] at this; exact this, fun v H6 tv s6 => ?_⟩
            exact fin v H6 (hT5.same (s7.trans s6)) tv (NBut.same (s7.trans s6)) (Same.tk (s7.trans s6))

  | whn c d e =>
    obtain ⟨i0, i1, i2, hz0⟩ : ∃ i0 i1 i2, gi = [i0, i1, i2] := ⟨_, _, _, hin⟩
    have hl2 : gi.length = 3 := by rw [hz0]; rfl
    have a0 := at_ 0 (by omega)
    have a1 := at_ 1 (by omega)
    have az := at_ 2 (by omega)
    have epa' : H5 pa = some (.tup (.str "when" :: xs)) := epa5
    clear epa5 fault at_ s0 hl2 hz0 hin hfit hSR hbound
    cases ws with
    | nil =>
      have hu := tw5.nil_inv
      subst hu
      have hs2 : lbehS P cl p ts [] S R5 ⟨.whn c d e, gi, gn⟩ = (.need (S.getD 0 0), R5) := rfl
      rw [hs2] at fin
      walk_at "gg"
      rename_i a2 H2 n2 e2 s2 b3 H3 n3 e3 s3 b4 H4 n4 e4 s4
      have s24 := s2.trans (s3.trans s4)
      refine g_ixL (.of (s24 _ _ ed5)) (atI_of (by decide) a0) ?_
      walk_at "gg"
      rename_i b6 H6 n6 e6 s6
      exact fin _ H6 (hT5.same (s24.trans s6)) (.tup e6 (.cons (.str _) (.one (.int _)))) (NBut.same (s24.trans s6)) (Same.tk (s24.trans s6))
    | cons w0 r =>
      obtain ⟨u, us', rfl, tu, tus⟩ := Tps.cons_inv (ds := r.map Wo.data) tw5
      walk_at "gg"
      rename_i a2 H2 n2 e2 s2 b3 H3 n3 e3 s3 b4 H4 n4 e4 s4 b5 H7 n7 e7 s6
      have s7 := s2.trans (s3.trans (s4.trans s6))
      have tu7 := tu.mono (Same.tk s7)
      refine g_wword tu7 ?_
      walk_at "gg"
      cases w0 with
      | pair a b =>
        have hs2 : lbehS P cl p ts ((.pair a b) :: r) S R5 ⟨.whn c d e, gi, gn⟩ = (.fault "number", R5) := rfl
        rw [hs2] at fin
        refine g_T (by show (!decide (("pair" : Str) = "number")) = true; decide +kernel) ?_
        walk_at "gg"
        rename_i b6 H6 n6 e6 s6
        exact fin _ H6 (hT5.same (s7.trans s6)) (.tup e6 (.cons (.str _) (.one (.str _)))) (NBut.same (s7.trans s6)) (Same.tk (s7.trans s6))
      | fn f gv =>
        have hs2 : lbehS P cl p ts ((.fn f gv) :: r) S R5 ⟨.whn c d e, gi, gn⟩ = (.fault "number", R5) := rfl
        rw [hs2] at fin
        refine g_T (by show (!decide (("function" : Str) = "number")) = true; decide +kernel) ?_
        walk_at "gg"
        rename_i b6 H6 n6 e6 s6
        exact fin _ H6 (hT5.same (s7.trans s6)) (.tup e6 (.cons (.str _) (.one (.str _)))) (NBut.same (s7.trans s6)) (Same.tk (s7.trans s6))
      | num a =>
        refine g_F (by show (!decide (("number" : Str) = "number")) = false; decide +kernel) ?_
        obtain ⟨ua, rfl, eua⟩ := tu7.wnum
        have hs2 : lbehS P cl p ts (.num a :: r) S R5 ⟨.whn c d e, gi, gn⟩ = (passA false (S.getD (if a = 0 then 2 else 1) 0) r, R5) := rfl
        rw [hs2] at fin
        walk_at "gg"
        by_cases h0 : a = 0
        · rw [if_pos h0] at fin
          subst h0
          show rIxG K w (.ref D) (.int 2) _ _
          refine g_ixL (.of (s7 _ _ ed5)) (atI_of (by decide) az) ?_
          walk_at "gg"
          refine g_slL (.of (s7 _ _ el5)) fun l5 H8 n8 e8 s8 => ?_
          rw [cut_tail] at e8
          walk_at "gg"
          refine ⟨false, _, l5, us', r, rfl, e8, tus.mono (Same.tk (s7.trans s8)), fun v H6 tv s6 => ?_⟩
          have s56 := s7.trans (s8.trans s6)
          exact fin v H6 (hT5.same s56) tv (NBut.same s56) (Same.tk s56)
        · rw [if_neg h0] at fin
          rw [decide_eq_false h0]
          show rIxG K w (.ref D) (.int 1) _ _
          refine g_ixL (.of (s7 _ _ ed5)) (atI_of (by decide) a1) ?_
          walk_at "gg"
          refine g_slL (.of (s7 _ _ el5)) fun l5 H8 n8 e8 s8 => ?_
          rw [cut_tail] at e8
          walk_at "gg"
          refine ⟨false, _, l5, us', r, rfl, e8, tus.mono (Same.tk (s7.trans s8)), fun v H6 tv s6 => ?_⟩
          have s56 := s7.trans (s8.trans s6)
          exact fin v H6 (hT5.same s56) tv (NBut.same s56) (Same.tk s56)
end

/-! ### what comes of a node, seen one by one or all at once: the same -/
abbrev Pre (R A : List NRow) : Prop := ∃ E, A = R ++ E
theorem Pre.refl (R : List NRow) : Pre R R := ⟨[], (List.append_nil _).symm⟩
theorem Pre.trans {R A B : List NRow} (h : Pre R A) (k : Pre A B) : Pre R B := by
  obtain ⟨E, rfl⟩ := h
  obtain ⟨F, rfl⟩ := k
  exact ⟨E ++ F, List.append_assoc _ _ _⟩
theorem Pre.at_ {R A : List NRow} {i : Nat} {r : NRow} (h : Pre R A) (e : R[i]? = some r) : A[i]? = some r := by
  obtain ⟨E, rfl⟩ := h
  rw [List.getElem?_append_left (List.getElem?_eq_some_iff.mp e).1]
  exact e
def AtN (A : List NRow) (a : Int) (r : NRow) : Prop := ∃ i : Nat, a = i ∧ A[i]? = some r
theorem AtN.mono {A B : List NRow} {a : Int} {r : NRow} (h : AtN A a r) (p : Pre A B) : AtN B a r := by
  obtain ⟨i, e, h⟩ := h
  exact ⟨i, e, p.at_ h⟩
def Low (R : List NRow) (ts : List Int) : Prop := ts.length ≤ 9 ∧ ∀ x ∈ ts, ∃ r, AtN R x r
theorem nodeN_pre (A : List NRow) (r : NRow) : Pre A (nodeN A false r).2 := by
  unfold nodeN
  cases rowIx A r with
  | some i => exact .refl A
  | none => exact ⟨[r], rfl⟩
theorem nodeN_at (A : List NRow) (r : NRow) : AtN (nodeN A false r).2 (nodeN A false r).1 r := by
  unfold nodeN
  cases h : rowIx A r with
  | some i => exact ⟨i, rfl, rowIx_at h⟩
  | none => exact ⟨A.length, rfl, by
      show (A ++ [r])[A.length]? = some r
      rw [List.getElem?_append_right (Nat.le_refl _), Nat.sub_self]
      rfl⟩
def SameN (A B : List NRow) (a b : Int) : Prop := ∃ r, AtN A a r ∧ AtN B b r
def SameT (A B : List NRow) (a b : Int) : Prop := ∃ (p : Int) (as bs : List Int), AtN A a (p, as) ∧ AtN B b (p, bs) ∧ Paired (SameN A B) as bs ∧ as.length ≤ 10
def SameW (A B : List NRow) : Wo → Wo → Prop
  | .num n, .num m => n = m
  | .pair a b, .pair c d => SameN A B a c ∧ SameN A B b d
  | .fn f as, .fn g bs => f = g ∧ Paired (SameN A B) as bs ∧ as.length ≤ 10
  | _, _ => False
def SameA (A B : List NRow) : An → An → Prop
  | .need a, .need b => SameT A B a b
  | .call a, .call b => SameT A B a b
  | .worth v, .worth w => SameW A B v w
  | .fault s, .fault t => s = t
  | _, _ => False
def WLow (R : List NRow) : Wo → Prop
  | .num _ => True
  | .pair a b => Low R [a, b]
  | .fn _ ts => Low R ts
section
variable {R A B A' B' : List NRow} {ts : List Int} {ws : List Wo} {P : Prog}
theorem SameN.mono {a b : Int} (h : SameN A B a b) (pa : Pre A A') (pb : Pre B B') : SameN A' B' a b := by
  obtain ⟨r, h1, h2⟩ := h
  exact ⟨r, h1.mono pa, h2.mono pb⟩
theorem low_same : ∀ {ts : List Int}, (∀ x ∈ ts, ∃ r, AtN R x r) → Pre R A → Pre R B → Paired (SameN A B) ts ts
  | [], _, _, _ => .nil
  | x :: ts, h, pa, pb => by
    obtain ⟨r, hr⟩ := h x (.head _)
    exact .cons ⟨r, hr.mono pa, hr.mono pb⟩ (low_same (fun y hy => h y (.tail _ hy)) pa pb)
theorem Low.same {ts : List Int} (h : Low R ts) (pa : Pre R A) (pb : Pre R B) : Paired (SameN A B) ts ts := low_same h.2 pa pb
theorem WLow.same {v : Wo} (h : WLow R v) (pa : Pre R A) (pb : Pre R B) : SameW A B v v := by
  cases v with
  | num n => rfl
  | pair a b =>
    obtain ⟨r, hr⟩ := h.2 a (.head _)
    obtain ⟨s, hs⟩ := h.2 b (.tail _ (.head _))
    exact ⟨⟨r, hr.mono pa, hr.mono pb⟩, ⟨s, hs.mono pa, hs.mono pb⟩⟩
  | fn f ts => exact ⟨rfl, Low.same h pa pb, Nat.le_succ_of_le h.1⟩
theorem sameT_of {r : NRow} {a b : Int} (hl : Low R r.2) (ha : AtN A a r) (hb : AtN B b r) (pa : Pre R A) (pb : Pre R B) : SameT A B a b := ⟨r.1, r.2, r.2, ha, hb, hl.same pa pb, Nat.le_succ_of_le hl.1⟩
theorem low_row (hRR : ∀ r ∈ R, Low R r.2) {x : Int} {r : NRow} (h : AtN R x r) : Low R r.2 := by
  obtain ⟨i, _, h⟩ := h
  exact hRR r (List.mem_of_getElem? h)
theorem pass_same {a b : Int} (h : SameT A B a b) (hws : ∀ v ∈ ws, WLow R v) (pa : Pre R A) (pb : Pre R B) : SameA A B (passN a ws) (passA false b ws) := by
  cases ws with
  | nil => exact h
  | cons v r => exact (hws v (.head _)).same pa pb
def seenRow (P : Prog) (R : List NRow) (q : Nat) (ts : List Int) : NRow :=
  match P.gds[q]? with
  | none => ((q : Nat), ts)
  | some g => match g.named with
    | none => ((q : Nat), ts)
    | some (.row a) => ((a : Nat), ts)
    | some (.thing k) => (R[((ts[k]?).getD 0).toNat]?).getD (0, [])
theorem seenP_at {q : Nat} (hRR : ∀ r ∈ R, Low R r.2) (hts : Low R ts) (hn : (sizesL (allFn P))[q]? = some ts.length) : Low R (seenRow P R q ts).2 ∧ ∀ A, Pre R A → AtN (seenP P A false q ts).2 (seenP P A false q ts).1 (seenRow P R q ts) ∧ Pre A (seenP P A false q ts).2 := by
  obtain ⟨g, hg⟩ : ∃ g, P.gds[q]? = some g := ⟨_, List.getElem?_eq_getElem (by rw [gds_length]; exact (List.getElem?_eq_some_iff.mp hn).1)⟩
  have ok := seen_ok hg hn
  have e1 : ∀ A, seenP P A false q ts = seenN g A false (q : Nat) ts := fun A => by unfold seenP; rw [hg]
  have e2 : seenRow P R q ts = match g.named with
    | none => ((q : Nat), ts)
    | some (.row a) => ((a : Nat), ts)
    | some (.thing k) => (R[((ts[k]?).getD 0).toNat]?).getD (0, []) := by unfold seenRow; rw [hg]
  rw [e2]
  refine ⟨?_, fun A pA => ?_⟩
  · cases h : g.named with
    | none => exact hts
    | some m =>
      cases m with
      | row a => exact hts
      | thing k =>
        have hk := ok k h
        obtain ⟨r, i, hi, hr⟩ := hts.2 _ (List.getElem_mem hk)
        show Low R ((R[((ts[k]?).getD 0).toNat]?).getD (0, [])).2
        rw [List.getElem?_eq_getElem hk]
        show Low R ((R[(ts[k]).toNat]?).getD (0, [])).2
        rw [hi, Int.toNat_natCast, hr]
        exact hRR r (List.mem_of_getElem? hr)
  · rw [e1]
    unfold seenN
    cases h : g.named with
    | none => exact ⟨nodeN_at _ _, nodeN_pre _ _⟩
    | some m =>
      cases m with
      | row a => exact ⟨nodeN_at _ _, nodeN_pre _ _⟩
      | thing k =>
        have hk := ok k h
        obtain ⟨r, i, hi, hr⟩ := hts.2 _ (List.getElem_mem hk)
        refine ⟨⟨i, ?_, ?_⟩, .refl _⟩
        · show (ts[k]?).getD 0 = _
          rw [List.getElem?_eq_getElem hk]
          exact hi
        · show A[i]? = some ((R[((ts[k]?).getD 0).toNat]?).getD (0, []))
          rw [List.getElem?_eq_getElem hk]
          show A[i]? = some ((R[(ts[k]).toNat]?).getD (0, []))
          rw [hi, Int.toNat_natCast, hr]
          exact pA.at_ hr
theorem seenAll_at (hRR : ∀ r ∈ R, Low R r.2) (hts : Low R ts) : ∀ (qs : List Nat) (A : List NRow), (∀ q ∈ qs, (sizesL (allFn P))[q]? = some ts.length) → Pre R A → Pre A (seenAll P false ts A qs).2 ∧ ∀ i q, qs[i]? = some q → AtN (seenAll P false ts A qs).2 ((seenAll P false ts A qs).1.getD i 0) (seenRow P R q ts)
  | [], A, _, _ => ⟨.refl A, fun i q h => by cases h⟩
  | q :: qs, A, hq, pA => by
    obtain ⟨h1, h2⟩ := (seenP_at hRR hts (hq q (.head _))).2 A pA
    obtain ⟨h3, h4⟩ := seenAll_at hRR hts qs (seenP P A false q ts).2 (fun x hx => hq x (.tail _ hx)) (pA.trans h2)
    refine ⟨h2.trans h3, fun i x hx => ?_⟩
    cases i with
    | zero =>
      cases hx
      exact h1.mono h3
    | succ i => exact h4 i x hx
theorem beh_same {p : Nat} (hF : P.fine) (hRR : ∀ r ∈ R, Low R r.2) (hts : Low R ts) (hn : (sizesL (allFn P))[p]? = some ts.length) (hws : ∀ v ∈ ws, WLow R v) (pA : Pre R A) (pB : Pre R B) :
    SameA (behN P A false p ts ws).2 (lbehN P B false p ts ws).2 (behN P A false p ts ws).1 (lbehN P B false p ts ws).1 ∧ Pre A (behN P A false p ts ws).2 ∧ Pre B (lbehN P B false p ts ws).2 := by
  obtain ⟨g, hg⟩ : ∃ g, P.gds[p]? = some g := ⟨_, List.getElem?_eq_getElem (by rw [gds_length]; exact (List.getElem?_eq_some_iff.mp hn).1)⟩
  have hgo := gd_ok hF hg hn
  rw [behN_at hg, lbehN_at hg]
  unfold lbehG
  obtain ⟨gp, gi, gn⟩ := g
  obtain ⟨hin, hsub, sc, hgok⟩ := hgo
  dsimp only at hin hsub hgok
  obtain ⟨hB5, hS⟩ := seenAll_at (P := P) hRR hts gi B hsub pB
  dsimp only
  generalize (seenAll P false ts B gi).1 = S at hS
  generalize (seenAll P false ts B gi).2 = B5 at hB5 hS
  have pB5 := pB.trans hB5
  -- a place that is needed
  have nd : ∀ i q, gi[i]? = some q → SameT (seenP P A false q ts).2 B5 (seenP P A false q ts).1 (S.getD i 0) ∧ Pre A (seenP P A false q ts).2 := fun i q h => by
    obtain ⟨h1, h2⟩ := seenP_at (P := P) (q := q) hRR hts (hsub q (List.mem_of_getElem? h))
    obtain ⟨h3, h4⟩ := h2 A pA
    exact ⟨sameT_of h1 h3 (hS i q h) (pA.trans h4) pB5, h4⟩
  cases gp with
  | num m => exact ⟨rfl, .refl _, hB5⟩
  | name x =>
    obtain ⟨h1, h2⟩ := seenP_at (P := P) (q := p) hRR hts hn
    obtain ⟨h3, h4⟩ := h2 A pA
    obtain ⟨h5, h6⟩ := h2 B5 pB5
    exact ⟨pass_same (sameT_of h1 h3 h5 (pA.trans h4) (pB5.trans h6)) hws (pA.trans h4) (pB5.trans h6), h4, hB5.trans h6⟩
  | fn f =>
    unfold behG lbehS funN
    dsimp only
    by_cases h0 : 0 < (P.door f).2
    · rw [if_pos h0, if_pos h0]
      exact ⟨⟨rfl, .nil, Nat.zero_le _⟩, .refl _, hB5⟩
    · rw [if_neg h0, if_neg h0]
      have b1 := nodeN_pre B5 (((P.door f).1 : Nat), [])
      cases ws with
      | nil => exact ⟨⟨_, _, _, nodeN_at _ _, nodeN_at _ _, .nil, Nat.zero_le _⟩, nodeN_pre _ _, hB5.trans b1⟩
      | cons v r => exact ⟨(hws v (.head _)).same pA (pB5.trans b1), .refl _, hB5.trans b1⟩
  | letp r c =>
    unfold behG lbehS
    dsimp only
    have hgl : gi.length = r.parts.length + 1 := by
      rw [show gi = placesOf (r.parts ++ [c]) (p + 1) from hin, placesOf_len, List.length_append]
      rfl
    have hx : gi[r.parts.length]? = some gi[r.parts.length] := List.getElem?_eq_getElem (by omega)
    obtain ⟨h1, h2⟩ := nd _ _ hx
    rw [getD_at hx]
    exact ⟨pass_same h1 hws (pA.trans h2) pB5, h2, hB5⟩
  | shut c => exact hgok.elim
  | one k c =>
    have hx : gi[0]? = some (p + 1) := by rw [show gi = [p + 1] from hin]; rfl
    obtain ⟨h1, h2⟩ := nd _ _ hx
    unfold behG lbehS
    dsimp only
    rw [getD_at hx]
    cases ws with
    | nil => exact ⟨h1, h2, hB5⟩
    | cons v r =>
      cases v with
      | num n => exact ⟨rfl, .refl _, hB5⟩
      | fn f gv => exact ⟨rfl, .refl _, hB5⟩
      | pair a b =>
        have hab := hws _ (.head _)
        have hs : ∃ r, AtN R (sideOf k a b) r := by
          cases k with
          | left => exact hab.2 a (.head _)
          | right => exact hab.2 b (.tail _ (.head _))
        obtain ⟨rr, hr⟩ := hs
        exact ⟨pass_same (sameT_of (low_row hRR hr) (hr.mono pA) (hr.mono pB5) pA pB5) (fun v hv => hws v (.tail _ hv)) pA pB5, .refl _, hB5⟩
  | whn c d e =>
    obtain ⟨i0, i1, i2, hz0⟩ : ∃ i0 i1 i2, gi = [i0, i1, i2] := ⟨_, _, _, hin⟩
    have x0 : gi[0]? = some i0 := by rw [hz0]; rfl
    have x1 : gi[1]? = some i1 := by rw [hz0]; rfl
    have x2 : gi[2]? = some i2 := by rw [hz0]; rfl
    unfold behG lbehS
    dsimp only
    rw [getD_at x0, getD_at x1, getD_at x2]
    cases ws with
    | nil => exact ⟨(nd _ _ x0).1, (nd _ _ x0).2, hB5⟩
    | cons v r =>
      cases v with
      | pair a b => exact ⟨rfl, .refl _, hB5⟩
      | fn f gv => exact ⟨rfl, .refl _, hB5⟩
      | num n =>
        have hr : ∀ v ∈ r, WLow R v := fun v hv => hws v (.tail _ hv)
        show SameA (seenP P A false (if n = 0 then i2 else i1) ts).2 B5 (passN (seenP P A false (if n = 0 then i2 else i1) ts).1 r) (passA false (S.getD (if n = 0 then 2 else 1) 0) r) ∧ Pre A (seenP P A false (if n = 0 then i2 else i1) ts).2 ∧ Pre B B5
        by_cases h0 : n = 0
        · rw [if_pos h0, if_pos h0]
          exact ⟨pass_same (nd _ _ x2).1 hr (pA.trans (nd _ _ x2).2) pB5, (nd _ _ x2).2, hB5⟩
        · rw [if_neg h0, if_neg h0]
          exact ⟨pass_same (nd _ _ x1).1 hr (pA.trans (nd _ _ x1).2) pB5, (nd _ _ x1).2, hB5⟩
  | two k c d =>
    obtain ⟨i0, i1, hz0⟩ : ∃ i0 i1, gi = [i0, i1] := ⟨_, _, hin⟩
    have x0 : gi[0]? = some i0 := by rw [hz0]; rfl
    have x1 : gi[1]? = some i1 := by rw [hz0]; rfl
    have op : k.op = true → SameA (opN P A false k i0 i1 ts ws).2 (needOr S B5 (fun w r => lopN k S B5 r w) ws).2 (opN P A false k i0 i1 ts ws).1 (needOr S B5 (fun w r => lopN k S B5 r w) ws).1 ∧ Pre A (opN P A false k i0 i1 ts ws).2 ∧ Pre B (needOr S B5 (fun w r => lopN k S B5 r w) ws).2 := by
      intro hk
      cases ws with
      | nil => exact ⟨(nd _ _ x0).1, (nd _ _ x0).2, hB5⟩
      | cons v r =>
        cases v with
        | pair a b => cases r <;> exact ⟨rfl, .refl _, hB5⟩
        | fn f gv => cases r <;> exact ⟨rfl, .refl _, hB5⟩
        | num a =>
          cases r with
          | nil => exact ⟨(nd _ _ x1).1, (nd _ _ x1).2, hB5⟩
          | cons v2 r2 =>
            cases v2 with
            | pair b c => exact ⟨rfl, .refl _, hB5⟩
            | fn f gv => exact ⟨rfl, .refl _, hB5⟩
            | num b =>
              show SameA (if (reck k a b).natAbs < 10 ^ 60 then (An.worth (.num (reck k a b)), A) else (An.fault "great", A)).2 B5 (if (reck k a b).natAbs < 10 ^ 60 then (An.worth (.num (reck k a b)), A) else (An.fault "great", A)).1 (if (reck k a b).natAbs < 10 ^ 60 then An.worth (.num (reck k a b)) else An.fault "great") ∧ Pre A (if (reck k a b).natAbs < 10 ^ 60 then (An.worth (.num (reck k a b)), A) else (An.fault "great", A)).2 ∧ Pre B B5
              by_cases h : (reck k a b).natAbs < 10 ^ 60
              · rw [if_pos h, if_pos h]
                exact ⟨rfl, .refl _, hB5⟩
              · rw [if_neg h, if_neg h]
                exact ⟨rfl, .refl _, hB5⟩
    have one : (K2.op k = true → SameA (behG P A false p ts ws ⟨.two k c d, gi, gn⟩).2 (lbehS P false p ts ws S B5 ⟨.two k c d, gi, gn⟩).2 (behG P A false p ts ws ⟨.two k c d, gi, gn⟩).1 (lbehS P false p ts ws S B5 ⟨.two k c d, gi, gn⟩).1 ∧ Pre A (behG P A false p ts ws ⟨.two k c d, gi, gn⟩).2 ∧ Pre B (lbehS P false p ts ws S B5 ⟨.two k c d, gi, gn⟩).2) := by
      intro hk
      subst hz0
      cases k with
      | give => cases hk
      | pair => cases hk
      | plus => exact op hk
      | less => exact op hk
      | times => exact op hk
      | below => exact op hk
    cases k with
    | plus => exact one rfl
    | less => exact one rfl
    | times => exact one rfl
    | below => exact one rfl
    | pair =>
      clear op one
      unfold behG lbehS
      dsimp only
      rw [getD_at x0, getD_at x1]
      obtain ⟨h1, h2⟩ := seenP_at (P := P) (q := i0) hRR hts (hsub _ (List.mem_of_getElem? x0))
      obtain ⟨h3, h4⟩ := seenP_at (P := P) (q := i1) hRR hts (hsub _ (List.mem_of_getElem? x1))
      obtain ⟨h5, h6⟩ := h2 A pA
      obtain ⟨h7, h8⟩ := h4 _ (pA.trans h6)
      exact ⟨⟨⟨_, h5.mono h8, hS _ _ x0⟩, ⟨_, h7, hS _ _ x1⟩⟩, h6.trans h8, hB5⟩
    | give =>
      clear op one
      unfold behG lbehS
      dsimp only
      rw [getD_at x0, getD_at x1]
      cases ws with
      | nil => exact ⟨(nd _ _ x0).1, (nd _ _ x0).2, hB5⟩
      | cons v r =>
        cases v with
        | pair a b => exact ⟨rfl, .refl _, hB5⟩
        | num n => exact ⟨rfl, .refl _, hB5⟩
        | fn f gv =>
          obtain ⟨h3, h4⟩ := seenP_at (P := P) (q := i1) hRR hts (hsub _ (List.mem_of_getElem? x1))
          obtain ⟨h5, h6⟩ := h4 A pA
          have hb := hS _ _ x1
          have hgv : Low R gv := hws _ (.head _)
          have hr : ∀ v ∈ r, WLow R v := fun v hv => hws v (.tail _ hv)
          unfold giveN needOr lgiveN lgivenN
          dsimp only
          generalize (seenP P A false i1 ts).1 = xa at h5
          generalize (seenP P A false i1 ts).2 = A1 at h5 h6
          generalize S.getD 1 0 = xb at hb
          have hpr : Paired (SameN A1 B5) (gv ++ [xa]) (gv ++ [xb]) := paired_append (hgv.same (pA.trans h6) pB5) (.cons ⟨_, h5, hb⟩ .nil)
          have hlen : (gv ++ [xb]).length = (gv ++ [xa]).length := by rw [List.length_append, List.length_append]; rfl
          have hg10 : (gv ++ [xa]).length ≤ 10 := by rw [List.length_append]; exact Nat.succ_le_succ hgv.1
          rw [hlen]
          by_cases h : (gv ++ [xa]).length < (P.door f).2
          · rw [if_pos h, if_pos h]
            exact ⟨⟨rfl, hpr, hg10⟩, h6, hB5⟩
          · rw [if_neg h, if_neg h]
            have b1 := nodeN_pre B5 (((P.door f).1 : Nat), gv ++ [xb])
            have a1 := nodeN_pre A1 (((P.door f).1 : Nat), gv ++ [xa])
            cases r with
            | nil => exact ⟨⟨_, _, _, nodeN_at _ _, nodeN_at _ _, Paired.mapP hpr fun _ _ z => z.mono a1 b1, hg10⟩, h6.trans a1, hB5.trans b1⟩
            | cons v2 r2 => exact ⟨(hr v2 (.head _)).same (pA.trans h6) (pB5.trans b1), h6, hB5.trans b1⟩
end

/-! ### k17: how far tables grow; worths drawn -/
theorem nodeN_ln (rows : List NRow) (cl : Bool) (r : NRow) : (nodeN rows cl r).2.length ≤ rows.length + 1 := by
  unfold nodeN
  cases rowIx rows r with
  | some i => exact Nat.le_succ _
  | none =>
    dsimp only
    split
    · exact Nat.le_succ _
    · rw [List.length_append]
      exact Nat.le_refl _
theorem callN_ln {P : Prog} {rows : List NRow} {cl : Bool} {f : Str} {ts : List Int} {ws : List Wo} : (callN P rows cl f ts ws).2.length ≤ rows.length + 1 := by
  cases ws with
  | nil => exact nodeN_ln _ _ _
  | cons w r => exact Nat.le_succ _
theorem behN_ln {P : Prog} {rows : List NRow} {cl : Bool} {p : Nat} {ts : List Int} {ws : List Wo} : (behN P rows cl p ts ws).2.length ≤ rows.length + 2 := by
  have sn : ∀ q, (seenP P rows cl q ts).2.length ≤ rows.length + 2 := fun q => Nat.le_succ_of_le seenP_len
  have r0 : rows.length ≤ rows.length + 2 := Nat.le_add_right _ _
  unfold behN
  cases P.gds[p]? with
  | none => exact r0
  | some g =>
    dsimp only
    have op : ∀ k i0 i1, (opN P rows cl k i0 i1 ts ws).2.length ≤ rows.length + 2 := fun k i0 i1 => by
      cases ws with
      | nil => exact sn _
      | cons v r =>
        cases v with
        | pair a b => cases r <;> exact r0
        | fn f gv => cases r <;> exact r0
        | num a =>
          cases r with
          | nil => exact sn _
          | cons v2 r2 =>
            cases v2 with
            | pair b c => exact r0
            | fn f gv => exact r0
            | num b =>
              show (if (reck k a b).natAbs < 10 ^ 60 then (An.worth (.num (reck k a b)), rows) else (An.fault "great", rows)).2.length ≤ _
              split <;> exact r0
    obtain ⟨gp, gi, gn⟩ := g
    cases gp with
    | num m => exact r0
    | name x => exact sn _
    | fn f =>
      show (funN P rows cl f ws).2.length ≤ _
      unfold funN
      split
      · exact r0
      · exact Nat.le_succ_of_le callN_ln
    | letp r c => exact sn _
    | shut c => exact r0
    | one k c =>
      cases ws with
      | nil => exact sn _
      | cons v r => cases v <;> exact r0
    | whn c d e =>
      cases ws with
      | nil => exact sn _
      | cons v r =>
        cases v with
        | num n => exact sn _
        | pair a b => exact r0
        | fn f gv => exact r0
    | two k c d =>
      cases k with
      | plus => exact op _ _ _
      | less => exact op _ _ _
      | times => exact op _ _ _
      | below => exact op _ _ _
      | pair =>
        show (seenP P (seenP P rows cl (gi.getD 0 0) ts).2 cl (gi.getD 1 0) ts).2.length ≤ _
        have h1 := seenP_len (P := P) (rows := rows) (cl := cl) (q := gi.getD 0 0) (ts := ts)
        have h2 := seenP_len (P := P) (rows := (seenP P rows cl (gi.getD 0 0) ts).2) (cl := cl) (q := gi.getD 1 0) (ts := ts)
        omega
      | give =>
        show (giveN P rows cl (gi.getD 0 0) (gi.getD 1 0) ts ws).2.length ≤ _
        cases ws with
        | nil => exact sn _
        | cons v r =>
          cases v with
          | pair a b => exact r0
          | num n => exact r0
          | fn f gv =>
            unfold giveN
            dsimp only
            split
            · exact sn _
            · have h1 := seenP_len (P := P) (rows := rows) (cl := cl) (q := gi.getD 1 0) (ts := ts)
              have h2 := callN_ln (P := P) (rows := (seenP P rows cl (gi.getD 1 0) ts).2) (cl := cl) (f := f) (ts := gv ++ [(seenP P rows cl (gi.getD 1 0) ts).1]) (ws := r)
              omega
theorem needOr_ln {S : List Int} {rows : List NRow} {f : Wo → List Wo → An × List NRow} (h : ∀ w r, (f w r).2.length ≤ rows.length + 1) (ws : List Wo) : (needOr S rows f ws).2.length ≤ rows.length + 1 := by
  cases ws with
  | nil => exact Nat.le_succ _
  | cons w r => exact h w r
theorem lbehS_ln {P : Prog} {rows : List NRow} {cl : Bool} {p : Nat} {ts : List Int} {ws : List Wo} {S : List Int} {g : Gd} : (lbehS P cl p ts ws S rows g).2.length ≤ rows.length + 1 := by
  have r0 : rows.length ≤ rows.length + 1 := Nat.le_succ _
  have op : ∀ k w r, (lopN k S rows r w).2.length ≤ rows.length + 1 := fun k w r => by
    cases w with
    | num a => cases r <;> exact r0
    | pair a b => exact r0
    | fn f gv => exact r0
  obtain ⟨gp, gi, gn⟩ := g
  cases gp with
  | num m => exact r0
  | name x => exact seenP_len
  | fn f =>
    show (if 0 < (P.door f).2 then (An.worth (.fn f []), rows) else (passA true (nodeN rows cl (((P.door f).1 : Nat), [])).1 ws, (nodeN rows cl (((P.door f).1 : Nat), [])).2)).2.length ≤ _
    split
    · exact r0
    · exact nodeN_ln _ _ _
  | letp r c => exact r0
  | shut c => exact r0
  | one k c => exact needOr_ln (fun w r => by cases w <;> exact r0) ws
  | whn c d e => exact needOr_ln (fun w r => by cases w <;> exact r0) ws
  | two k c d =>
    cases k with
    | plus => exact needOr_ln (op _) ws
    | less => exact needOr_ln (op _) ws
    | times => exact needOr_ln (op _) ws
    | below => exact needOr_ln (op _) ws
    | pair => exact r0
    | give =>
      refine needOr_ln (fun w r => ?_) ws
      cases w with
      | num n => exact r0
      | pair a b => exact r0
      | fn f gv =>
        show (lgivenN P rows cl f gv (S.getD 1 0) r).2.length ≤ _
        unfold lgivenN
        split
        · exact r0
        · exact nodeN_ln _ _ _
theorem lbehN_ln {P : Prog} {rows : List NRow} {cl : Bool} {p : Nat} {ts : List Int} {ws : List Wo} (hF : P.fine) (hn : (sizesL (allFn P))[p]? = some ts.length) : (lbehN P rows cl p ts ws).2.length ≤ rows.length + 100001 := by
  obtain ⟨g, hg⟩ : ∃ g, P.gds[p]? = some g := ⟨_, List.getElem?_eq_getElem (by rw [gds_length]; exact (List.getElem?_eq_some_iff.mp hn).1)⟩
  rw [lbehN_at hg]
  unfold lbehG
  have h1 := lbehS_ln (P := P) (rows := (seenAll P cl ts rows g.inner).2) (cl := cl) (p := p) (ts := ts) (ws := ws) (S := (seenAll P cl ts rows g.inner).1) (g := g)
  have h2 := (seenAll_len (P := P) (cl := cl) (ts := ts) rows g.inner).2
  have h3 : g.inner.length ≤ 100000 := by
    have hgo := gd_ok hF hg hn
    obtain ⟨k, fn, h4, h5, h6, h7, h8⟩ := place_at (P := P) (p := p) (List.getElem?_eq_some_iff.mp hn).1
    rw [h7] at hg
    obtain ⟨_, h9, _⟩ := gds_inner _ _ _ _ (Nat.le_refl _) _ _ hg
    have h10 := bodies_take_lt h4
    rw [gds_length] at h10
    have h11 := g.part.sz_kids
    have h12 := sz_len g.part.kids
    rw [hgo.inner, placesOf_len]
    have := sizes_total hF
    omega
  omega
def asks : An → Prop
  | .need _ => True
  | .call _ => True
  | _ => False
theorem fit_step {P : Prog} {rows : List NRow} {cl : Bool} {p : Nat} {ts : List Int} {ws : List Wo} {w0 : Wo} (h : asks (lbehN P rows cl p ts ws).1) : wsFit P p (ws ++ [w0]) := by
  intro g k a b hg hp hk
  rw [lbehN_at hg] at h
  obtain ⟨gp, gi, gn⟩ := g
  cases (show gp = .two k a b from hp)
  have h' : ∀ S R, asks (lbehS P cl p ts ws S R ⟨.two k a b, gi, gn⟩).1 → opWs (ws ++ [w0]) := by
    intro S R h
    have h2 : asks (needOr S R (fun w r => lopN k S R r w) ws).1 := by
      cases k with
      | give => cases hk
      | pair => cases hk
      | plus => exact h
      | less => exact h
      | times => exact h
      | below => exact h
    cases ws with
    | nil => exact trivial
    | cons v r =>
      cases v with
      | pair c d => exact h2.elim
      | fn f gv => exact h2.elim
      | num c =>
        cases r with
        | nil => exact trivial
        | cons v2 r2 =>
          have h3 : asks (twoN k c v2) := h2
          cases v2 with
          | pair c d => exact h3.elim
          | fn f gv => exact h3.elim
          | num d =>
            unfold twoN at h3
            dsimp only at h3
            split at h3 <;> exact h3.elim
  exact h' _ _ h
def WIn (m : Nat) : Wo → Prop
  | .num _ => True
  | .pair a b => (0 ≤ a ∧ a < m) ∧ (0 ≤ b ∧ b < m)
  | .fn _ ts => ∀ x ∈ ts, 0 ≤ x ∧ x < m
def FRow (P : Prog) (H : Hp) (v : V) : Prop := ∃ fn ∈ P.fs, fn.things ≠ [] ∧ ∃ a, v = .ref a ∧ H a = some (.tup [.str fn.name, .int fn.things.length])
theorem FRow.mono {P : Prog} {H H' : Hp} {v : V} (h : FRow P H v) (k : Tk H H') : FRow P H' v := by
  obtain ⟨fn, h1, h2, a, e, h3⟩ := h
  exact ⟨fn, h1, h2, a, e, k _ _ h3⟩
theorem fs_door {P : Prog} (hF : P.fine) {fn : Fn1} (h : fn ∈ P.fs) : fn.name ∈ P.names ∧ (P.door fn.name).2 = fn.things.length := by
  obtain ⟨k, hk, e⟩ := List.getElem_of_mem h
  have h1 : P.fs[k]? = some fn := by rw [List.getElem?_eq_getElem hk, e]
  have h2 : P.names[k]? = some fn.name := by
    show (P.fs.map (·.name))[k]? = _
    rw [List.getElem?_map, h1]
    rfl
  refine ⟨List.mem_of_getElem? h2, ?_⟩
  unfold Prog.door
  dsimp only
  rw [idx_nd hF.nd h2]
  unfold Prog.rowsG
  rw [List.getElem?_append_left (by rw [List.length_map]; exact hk), List.getElem?_map, h1]
  rfl
theorem strs_shaped {ns : List Str} (h : ∀ x ∈ ns, isName x) : SeqAt.shaped (.tuple (ns.map PyData.str)) = true := by
  have h1 := shaped_names h
  unfold SeqAt.shaped at h1 ⊢
  simp only [PyData.canLay0, PyData.depth] at h1 ⊢
  exact h1
section
variable {K : PySem.W.Frag} {w : World}
def spLWorth : Sp := fun vs H Q _ => ∃ (pen L : Addr) (u : V) (P : Prog) (m : Nat), vs = [.ref pen, u, .int (m : Nat)] ∧ PenAt H pen L ∧ Tp H u P.data ∧ P.fine ∧ 0 < m ∧ m ≤ 100000 ∧
  ∀ (v : V) (w0 : Wo) (H' : Hp), Tp H' v w0.data → WoOk P w0 → WIn m w0 → PenAt H' pen L → Chg pen H H' → Q v H'
theorem lworth_num {D : Ends} {Q : VK} {H H5 : Hp} {P : Prog} {m : Nat} {pen L : Addr} {x1 x2 x3 x4 x5 x6 x7 x8 x9 : Option V} (hD : D.rt = Q) (hP : PenAt H5 pen L) (c : Chg pen H H5)
    (q : ∀ (v : V) (w0 : Wo) (H' : Hp), Tp H' v w0.data → WoOk P w0 → WIn m w0 → PenAt H' pen L → Chg pen H H' → Q v H') :
    (tRet (tTupN (tCons (tC (.str "number")) (tCons (tIxG K w (tLstN (tCons (tCall spNumber [] E0 (tCons (tVar 0) tNil)) (tCons (tOp rSubG (tOp rPowG (tC (.int 10)) (tC (.int 60))) (tC (.int 1))) (tCons (tOp rSubG (tC (.int 1)) (tOp rPowG (tC (.int 10)) (tC (.int 60)))) (tCons (tC (.int 0)) tNil))))) (tCall spDraw [] E0 (tCons (tVar 0) (tCons (tC (.int 4)) tNil)))) tNil)))) D [some (.ref pen), x1, x2, x3, x4, x5, x6, x7, x8, x9] H5 := by
  refine g_ret ?_
  rw [hD]
  walk_at "gg"
  refine ⟨pen, L, rfl, hP, fun n H6 hn hP6 c6 => ?_⟩
  walk_at "gg"
  refine g_powI ⟨by decide, by decide, by decide⟩ ?_
  walk_at "gg"
  refine g_powI ⟨by decide, by decide, by decide⟩ ?_
  walk_at "gg"
  rename_i l7 H7 n7 e7 s7
  refine g_draw (hP6.same s7) (by decide) (by decide) fun j H8 j0 j1 hP8 c8 => ?_
  have e8 := c8 _ _ ((hP6.ne n7).1.symm) e7
  have fin : ∀ x : Int, x.natAbs < 10 ^ 60 → ∀ t H9, H9 t = some (.tup [.str "number", .int x]) → Same H8 H9 → Q (.ref t) H9 := fun x hx t H9 e9 s9 =>
    q _ (.num x) H9 (.tup e9 (.cons (.str _) (.one (.int _)))) hx trivial (hP8.same s9) (c.trans (c6.trans ((Chg.same s7).trans (c8.trans (Chg.same s9)))))
  have key : ∀ x : Int, x.natAbs < 10 ^ 60 → atI [V.int n, .int (10 ^ Int.toNat 60 - 1), .int (1 - 10 ^ Int.toNat 60), .int 0] j = some (.int x) → rIxG K w (.ref l7) (.int j) H8 (fun x H1 => tNil [some (.ref pen), x1, x2, x3, x4, x5, x6, x7, x8, x9] H1 fun xs H2 => (V.str "number" :: x :: xs).length ≤ sizeLine ∧ New H2 (.tup (V.str "number" :: x :: xs)) fun p H2 => Q (.ref p) H2) := by
    intro x hx hj
    refine g_ixL (.of e8) hj ?_
    walk_at "gg"
    rename_i t9 H9 n9 e9 s9
    exact fin x hx t9 H9 e9 s9
  have h4 : j = 0 ∨ j = 1 ∨ j = 2 ∨ j = 3 := by omega
  rcases h4 with rfl | rfl | rfl | rfl
  · exact key n hn rfl
  · exact key (10 ^ Int.toNat 60 - 1) (by decide) rfl
  · exact key (1 - 10 ^ Int.toNat 60) (by decide) rfl
  · exact key 0 (by decide) rfl
theorem pure_lworth : PureOk 3 spLWorth (t_law_worth K w spDraw spNumber) 10 := by
  refine ⟨fun vs H Q E ⟨_, _, _, _, _, e, _⟩ => by rw [e]; rfl, ?_⟩
  rintro vs H Q E ⟨pen, L, u, P, m, rfl, hP, tu, hF, hm0, hm1, q⟩
  show t_law_worth K w _ _ _ [some (.ref pen), some u, some (.int (m : Nat)), none, none, none, none, none, none, none] H
  unfold t_law_worth
  walk_at "gg"
  refine g_draw hP (by decide) (by decide) fun way H1 w0 w1 hP1 c1 => ?_
  have tu1 := tu.mono (hP.tk c1)
  obtain ⟨pa, fa, ua, vs, rfl, epa, efa, tfs, tas⟩ := tu1.prog
  have hvl : vs.length = P.fs.length := by rw [tfs.length, List.length_map]
  have hfew := hF.few
  walk_at "gg"
  refine g_seqT ?_
  walk_at "gg"
  intro D hD
  refine lc_any vs.length (fun i acc H' => (∀ v ∈ acc, FRow P H' v) ∧ acc.length ≤ i ∧ Same H1 H') hD (fun H' _ s => ⟨(by simp), Nat.le_refl _, s⟩)
    (fun i acc H' hi ⟨_, _, s⟩ => ⟨_, _, .of (s _ _ efa), List.getElem?_eq_getElem hi⟩) (fun acc H' ⟨_, _, s⟩ => ⟨_, .of (s _ _ efa), Nat.le_refl _⟩) ?_ ?_
  · rintro i x acc H4 _ hi hla ⟨hacc, hal, s4⟩ hd4 ⟨rfl, hx⟩
    have hx' := hx _ (.of (s4 _ _ efa))
    obtain ⟨dd, hdd, tx⟩ := (tfs.mono (Same.tk s4)).get hx'
    rw [List.getElem?_map] at hdd
    obtain ⟨fn, hfn, rfl⟩ := Option.map_eq_some_iff.mp hdd
    obtain ⟨a7, b7, u7, rfl, ea7, eb7, tu7⟩ := tx.fn1
    refine g_un3 ea7 ?_
    walk_at "gg"
    refine ⟨rfl, ?_⟩
    walk_at "gg"
    rename_i t1 H5 n5 e5 s5
    refine g_neD (.tup (.of (s5 _ _ eb7)) (Tps.dp (Tps.strs _))) (.tup (.of e5) .nil) (strs_shaped (hF.fs fn (List.mem_of_getElem? hfn)).th) (strs_shaped (ns := []) (by simp)) ?_
    cases hth : fn.things with
    | nil =>
      refine g_bl ?_
      refine g_F rfl ?_
      exact ⟨acc, s5 _ _ hd4, by omega, fun v hv => (hacc v hv).mono (Same.tk s5), by omega, s4.trans s5⟩
    | cons th0 ths =>
      refine g_bl ?_
      refine g_T rfl ?_
      walk_at "gg"
      rename_i t6 H6 n6 e6 s6
      have s56 := s5.trans s6
      refine lc_step (s56 _ _ hd4) hla (by show _ < 16777216; omega) fun H7 e7 c7 => ?_
      have k7 := c7.tkl (s56 _ _ hd4)
      refine ⟨fun v hv => ?_, by rw [List.length_append]; show _ + 1 ≤ _; omega, Same.chg (s4.trans s56) hD c7⟩
      rcases List.mem_append.mp hv with hv | hv
      · exact (hacc v hv).mono ((Same.tk s56).trans k7)
      · rw [List.mem_singleton.mp hv]
        refine ⟨fn, List.mem_of_getElem? hfn, by rw [hth]; simp, t6, rfl, ?_⟩
        have := k7 _ _ e6
        rw [List.length_map] at this
        exact this
  · rintro acc H4 hd4 ⟨hacc, hal, s4⟩
    have hP4 := hP1.same s4
    have c04 := c1.trans (Chg.same s4)
    walk_at "gg"
    refine g_ite (fun hb => ?_) (fun hb => ?_)
    · walk_at "gg"
      refine g_draw hP4 (by omega) (by omega) fun a H5 a0 a1 hP5 c5 => ?_
      walk_at "gg"
      refine g_draw hP5 (by omega) (by omega) fun b H6 b0 b1 hP6 c6 => ?_
      walk_at "gg"
      rename_i t7 H7 n7 e7 s7
      exact q _ (.pair a b) H7 (.tup e7 (.cons (.str _) (.cons (.int _) (.one (.int _))))) trivial ⟨⟨a0, a1⟩, b0, b1⟩ (hP6.same s7) (c04.trans (c5.trans (c6.trans (Chg.same s7))))
    · walk_at "gg"
      refine g_ite (fun hb2 => ?_) (fun hb2 => ?_)
      · walk_at "gg"
        rename_i l5 H5 n5 e5 s5
        have hP5 := hP4.same s5
        have c05 := c04.trans (Chg.same s5)
        have ed5 := s5 _ _ hd4
        have hacc5 : ∀ v ∈ acc, FRow P H5 v := fun v hv => (hacc v hv).mono (Same.tk s5)
        cases acc with
        | nil =>
          refine g_F rfl (g_next ?_)
          exact lworth_num rfl hP5 c05 q
        | cons v0 acc =>
          refine g_T rfl ?_
          walk_at "gg"
          have hlen : (v0 :: acc).length ≤ 8 := by omega
          refine g_draw hP5 (by simp only [List.length_cons]; omega) (by omega) fun j H6 j0 j1 hP6 c6 => ?_
          obtain ⟨j, rfl⟩ : ∃ j' : Nat, j = (j' : Nat) := ⟨j.toNat, by omega⟩
          have hj : j < (v0 :: acc).length := by omega
          obtain ⟨fn, hfn, hne, fa6, efa, hfa⟩ := (hacc5 _ (List.getElem_mem hj)).mono (hP5.tk c6)
          have nD : D ≠ pen := (hP1.ne hD).1.symm
          refine g_ixL (.of (c6 _ _ nD ed5)) (atI_nat (List.getElem?_eq_getElem hj)) ?_
          rw [efa]
          refine g_un2 hfa ?_
          walk_at "gg"
          have h4 := (hF.fs fn hfn).few
          have h1 : 0 < fn.things.length := List.length_pos_iff.mpr hne
          refine g_draw hP6 (by omega) (by omega) fun k H7 k0 k1 hP7 c7 => ?_
          obtain ⟨k, rfl⟩ : ∃ k' : Nat, k = (k' : Nat) := ⟨k.toNat, by omega⟩
          walk_at "gg"
          refine g_isrng (by omega) (by omega) ?_
          rw [Int.toNat_natCast]
          refine lc_rngP (by omega) hP7 (fun x => 0 ≤ x ∧ x < m) ?_ ?_
          · intro i H' Nx hi hP' c' hN
            refine g_name rfl ⟨rfl, ?_⟩
            walk_at "gg"
            refine g_draw hP' (by omega) (by omega) fun z H3 hz0 hz1 hP3 c3 => ?_
            exact hN z H3 hP3 c3 ⟨hz0, hz1⟩
          · intro Dl ys H8 nD8 eD8 hyl hF8 hP8 c8
            walk_at "gg"
            rename_i t9 H9 n9 e9 s9 t10 H10 n10 e10 s10
            obtain ⟨hd1, hd2⟩ := fs_door hF hfn
            exact q _ (.fn fn.name ys) H10 (.tup e10 (.cons (.str _) (.cons (.str _) (.one (.tup (s10 _ _ e9) (Tps.ints _)))))) ⟨mem_allN hd1, by rw [hd2, hyl]; omega⟩ hF8 (hP8.same (s9.trans s10)) (c05.trans (c6.trans (c7.trans (c8.trans (Chg.same (s9.trans s10))))))
      · exact g_F rfl (g_next (lworth_num rfl hP4 c04 q))
end

/-! ### k17: a worth that fits, mostly -/
def kvWish : List (Key × V) := [(.inr "give", .str "function"), (.inr "left", .str "pair"), (.inr "right", .str "pair")]
theorem valV_out0 {kvs : List (Key × V)} {k : Key} {v : V} (h : valV kvs k = some v) : ∃ p ∈ kvs, p.2 = v := by
  unfold valV at h
  obtain ⟨p, hp, e⟩ := Option.map_eq_some_iff.mp h
  exact ⟨p, List.mem_of_find?_eq_some hp, e⟩
theorem kvWish_str (s : Str) : ∃ t, (valV kvWish (.inr s)).getD (.str "number") = .str t := by
  cases h : valV kvWish (.inr s) with
  | none => exact ⟨_, rfl⟩
  | some v =>
    obtain ⟨p, hp, e⟩ := valV_out0 h
    have : ∃ t, p.2 = V.str t := by
      simp only [kvWish, List.mem_cons, List.not_mem_nil, or_false] at hp
      rcases hp with rfl | rfl | rfl <;> exact ⟨_, rfl⟩
    obtain ⟨t, ht⟩ := this
    exact ⟨t, by rw [← e]; exact ht⟩
section
variable {K : PySem.W.Frag} {w : World}
def spLWish : Sp := fun vs H Q _ => ∃ (pen L : Addr) (u : V) (P : Prog) (s : Str) (m : Nat), vs = [.ref pen, u, .str s, .int (m : Nat)] ∧ PenAt H pen L ∧ Tp H u P.data ∧ P.fine ∧ 0 < m ∧ m ≤ 100000 ∧
  ∀ (v : V) (w0 : Wo) (H' : Hp), Tp H' v w0.data → WoOk P w0 → WIn m w0 → PenAt H' pen L → Chg pen H H' → Q v H'
theorem pure_lwish : PureOk 4 spLWish (t_law_wish K w spLWorth) 8 := by
  refine ⟨fun vs H Q E ⟨_, _, _, _, _, _, e, _⟩ => by rw [e]; rfl, ?_⟩
  rintro vs H Q E ⟨pen, L, u, P, s, m, rfl, hP, tu, hF, hm0, hm1, q⟩
  show t_law_wish K w _ _ [some (.ref pen), some u, some (.str s), some (.int (m : Nat)), none, none, none, none] H
  unfold t_law_wish
  walk_at "gg"
  refine ⟨pen, L, u, P, m, rfl, hP, tu, hF, hm0, hm1, fun v w0 H1 tv hw hi hP1 c1 => ?_⟩
  walk_at "gg"
  refine g_isrng (by decide) (by decide) ?_
  refine for_any 3 (fun i σ H' => ∃ (v : V) (w0 : Wo) (x5 x6 x7 : Option V), σ = [some (.ref pen), some u, some (.str s), some (.int (m : Nat)), some v, x5, x6, x7] ∧ Tp H' v w0.data ∧ WoOk P w0 ∧ WIn m w0 ∧ PenAt H' pen L ∧ Chg pen H H')
    ⟨v, w0, _, _, _, rfl, tv, hw, hi, hP1, c1⟩ (fun i σ H' hi _ => hi) (fun σ H' _ => Nat.le_refl _) ?_ ?_
  · rintro i x σ _ H2 hi' ⟨v, w0, x5, x6, x7, rfl, tv, hw, hi, hP2, c2⟩ ⟨rfl, rfl⟩
    refine g_name rfl ?_
    walk_at "gg"
    refine ⟨pen, L, u, P, m, rfl, hP2, tu.mono (hP.tk c2), hF, hm0, hm1, fun v3 w3 H3 tv3 hw3 hi3 hP3 c3 => ?_⟩
    have tv' := tv.mono (hP2.tk c3)
    walk_at "gg"
    rename_i d H4 n4 e4 s4
    refine g_pairs kvWish e4 rfl (show 3 ≤ 15 by decide) ?_
    walk_at "gg"
    rename_i H5 e5 c5
    have e5' : H5 d = some (.dK kvWish) := e5
    have s35 : Same H3 H5 := fun b o eb => c5 _ _ (ne_of_none eb n4) (s4 _ _ eb)
    have tv5 := tv'.mono (Same.tk s35)
    have tv35 := tv3.mono (Same.tk s35)
    have hP5 := hP3.same s35
    have c05 := c2.trans (c3.trans (Chg.same s35))
    clear e5 c5 e4 n4 s4
    refine g_isd e5' ?_
    walk_at "gg"
    refine g_dget (k := .inr s) e5' rfl ?_
    obtain ⟨t, ht⟩ := kvWish_str s
    show gName 7 ((valV kvWish (.inr s)).getD (.str "number")) _ _ _
    rw [ht]
    walk_at "gg"
    refine g_wword tv5 ?_
    walk_at "gg"
    refine g_ite (fun hb => ?_) (fun hb => ?_)
    · walk_at "gg"
      exact ⟨v3, w3, _, _, _, rfl, tv35, hw3, hi3, hP5, c05⟩
    · walk_at "gg"
      exact ⟨v, w0, _, _, _, rfl, tv5, hw, hi, hP5, c05⟩
  · rintro σ H2 ⟨v, w0, x5, x6, x7, rfl, tv, hw, hi, hP2, c2⟩
    walk_at "gg"
    exact q v w0 H2 tv hw hi hP2 c2
end

/-! ### k17: alike, two rows deep -/
theorem rowsAt_tps {H : Hp} : ∀ {bs : List Addr} {rows : List NRow}, Paired (RowAt H) bs rows → Tps H (bs.map V.ref) (rows.map rowDt)
  | _, _, .nil => .nil
  | _, _, .cons a b => .cons a.tp (rowsAt_tps b)
theorem rows_refl (rs : List NRow) : PyData.eqv (.list (rs.map rowDt)) (.list (rs.map rowDt)) = true := PySem.SeqAt.eqv_refl _ (SeqAt.canLay_of_shaped (rows_shaped rs))
theorem same_rows {A B : List NRow} : ∀ {as bs : List Int}, Paired (SameN A B) as bs → ∃ rs, Paired (AtN A) as rs ∧ Paired (AtN B) bs rs
  | _, _, .nil => ⟨[], .nil, .nil⟩
  | _, _, .cons ⟨r, h1, h2⟩ t => by
    obtain ⟨rs, h3, h4⟩ := same_rows t
    exact ⟨r :: rs, .cons h1 h3, .cons h2 h4⟩
theorem g_eqLLd {K : PySem.W.Frag} {H : Hp} {Q : VK} {a b : Addr} {xs ys : List V} {ds es : List PyData} (ha : H a = some (.lst xs)) (hb : H b = some (.lst ys)) (ta : Tps H xs ds) (tb : Tps H ys es) (sa : SeqAt.shaped (.list ds) = true) (sb : SeqAt.shaped (.list es) = true)
    (q : Q (.bl (PyData.eqv (.list ds) (.list es))) H) : rEqG K (.ref a) (.ref b) H Q := g_eqD (.lst (.of ha) (Tps.dp ta)) (.lst (.of hb) (Tps.dp tb)) sa sb q
def AnOk (a : An) : Prop := ∀ s, a = .fault s → s = "pair" ∨ s = "number" ∨ s = "function" ∨ s = "great"
theorem fault_shaped {s : Str} (h : s = "pair" ∨ s = "number" ∨ s = "function" ∨ s = "great") : SeqAt.shaped (An.fault s).data = true := by
  rcases h with rfl | rfl | rfl | rfl <;> decide +kernel
theorem fault_at {s : Str} (h : s = "pair" ∨ s = "number" ∨ s = "function" ∨ s = "great") : ∃ c, atI s.cps.toList 1 = some c ∧ s.length ≤ sizeLine := by
  rcases h with rfl | rfl | rfl | rfl <;> exact ⟨_, rfl, by decide +kernel⟩
theorem num_shaped (n : Int) : SeqAt.shaped (An.worth (.num n)).data = true := by
  have h1 : PyData.strOk "worth" = true := by decide +kernel
  have h2 : PyData.strOk "number" = true := by decide +kernel
  unfold SeqAt.shaped
  rw [show PyData.canLay0 (An.worth (.num n)).data = true from by simp [An.data, Wo.data, PyData.canLay0, PyData.canLayAll0, h1, h2], Bool.true_and, decide_eq_true_eq]
  simp only [An.data, Wo.data, PyData.depth, PyData.depthAll]
  omega
theorem g_ne2 {K : PySem.W.Frag} {H : Hp} {Q : VK} {a b : Addr} {x y : Str} (h : H a = some (.tup [.str x, .str y])) (h2 : H b = some (.tup [.str x, .str y])) (q : Q (.bl false) H) : rNeG K (.ref a) (.ref b) H Q :=
  .inr (.inr (.inr (.inl ⟨2, by decide, .inr ⟨a, b, _, _, rfl, rfl, .of h, .of h2, .cons (.inl ⟨rfl, rfl⟩) (.cons (.inl ⟨rfl, rfl⟩) .nil)⟩, q⟩)))
section
variable {K : PySem.W.Frag} {w : World} {H H1 : Hp} {O : Addr → Prop} {A : NA} {B : LT} {P : Prog} {RA RB : List NRow}
/-- comprehensions that gather rows -/
theorem lc_gather {Q1 : Int → NRow → Prop} {te : TE} {t : Addr} {as : List Int} {rs : List NRow} {x0 x1 x2 x3 x4 x5 x6 x7 x8 : Option V} {Qd : Addr → Hp → Prop} (et : H1 t = some (.tup (as.map V.int))) (hl : as.length ≤ 10) (h : Paired Q1 as rs)
    (hs : ∀ (x : Int) (r : NRow) H' (Nx : V → Hp → Prop), Q1 x r → Same H1 H' → (∀ a, RowAt H' a r → Nx (.ref a) H') → te [x0, x1, x2, x3, x4, x5, x6, x7, some (.int x)] H' Nx)
    (hd : ∀ D cs H', Fr H1 D → H' D = some (.lst (cs.map V.ref)) → Paired (RowAt H') cs rs → Same H1 H' → Qd D H') : LcR (Itt K t) (gName 8) tYes te [8] [x0, x1, x2, x3, x4, x5, x6, x7, x8] H1 Qd := by
  have hlr := Paired.length h
  refine lc_mapT et (by rw [List.length_map]; omega) (fun i y H => ∃ a r, y = .ref a ∧ rs[i]? = some r ∧ RowAt H a r) (fun i y H H' k ⟨a, r, e, h, ra⟩ => ⟨a, r, e, h, ra.mono k⟩) ?_ ?_
  · intro i x H' Nx hx s hN
    rw [List.getElem?_map] at hx
    obtain ⟨z, hz, rfl⟩ := Option.map_eq_some_iff.mp hx
    obtain ⟨r, hr, hq⟩ := paired_get h hz
    refine g_name rfl ⟨rfl, ?_⟩
    exact hs z r H' Nx hq s fun a ra => hN _ _ (.refl _) ⟨a, r, rfl, hr, ra⟩
  · intro D ys H' fD eD hyl hF s
    rw [List.length_map] at hyl
    have : ∀ (ys : List V) (rs : List NRow), ys.length = rs.length → (∀ (i : Nat) y, ys[i]? = some y → ∃ a r, y = V.ref a ∧ rs[i]? = some r ∧ RowAt H' a r) → ∃ cs, ys = cs.map V.ref ∧ Paired (RowAt H') cs rs := by
      intro ys
      induction ys with
      | nil =>
        intro rs hl _
        cases rs with
        | nil => exact ⟨[], rfl, .nil⟩
        | cons r rs => cases hl
      | cons y ys ih =>
        intro rs hl hF
        cases rs with
        | nil => cases hl
        | cons r rs =>
          obtain ⟨a, r', e1, e2, ra⟩ := hF 0 y rfl
          cases e2
          obtain ⟨cs, e3, h3⟩ := ih rs (Nat.succ.inj hl) fun i y h => hF (i + 1) y h
          exact ⟨a :: cs, by rw [e1, e3]; rfl, .cons ra h3⟩
    obtain ⟨cs, rfl, hcs⟩ := this ys rs (by omega) hF
    exact hd D cs H' fD eD hcs s
theorem told_te (hN : NodesAt K w O H1 A P RA false) {x1 x2 x3 x4 x5 x6 x7 : Option V} {x : Int} {r : NRow} {Nx : V → Hp → Prop} {H' : Hp} (h : AtN RA x r) (s : Same H1 H') (q : ∀ a, RowAt H' a r → Nx (.ref a) H') :
    tMeth (He.ga K "Nodes") "told" (spTold K w) [] E0 (tVar 0) (tCons (tVar 8) tNil) [some (.ref A.x), x1, x2, x3, x4, x5, x6, x7, some (.int x)] H' Nx := by
  obtain ⟨i, rfl, hi⟩ := h
  have hN' := hN.same s
  have ob := hN'.ob
  walk_at "gg"
  exact ⟨O, A, P, RA, false, i, r, rfl, hN', hi, q⟩
theorem row_te (hT : LTabAt w H1 B RB false) {x0 x2 x3 x4 x5 x6 x7 : Option V} {x : Int} {r : NRow} {Nx : V → Hp → Prop} {H' : Hp} (h : AtN RB x r) (s : Same H1 H') (q : ∀ a, RowAt H' a r → Nx (.ref a) H') :
    tIxG K w (tIxG K w (tVar 1) (tC (.int 0))) (tVar 8) [x0, some (.ref B.t), x2, x3, x4, x5, x6, x7, some (.int x)] H' Nx := by
  obtain ⟨i, rfl, hi⟩ := h
  obtain ⟨obt, ⟨as, e1, e2, e3⟩, ne⟩ := hT.same s
  obtain ⟨a, ha, ra⟩ := paired_at e2 hi
  walk_at "gg"
  exact g_ixL (.of e1) (atI_nat (by rw [List.getElem?_map, ha]; rfl)) (q a ra)
def spLSame (K : PySem.W.Frag) (w : World) : Sp := fun vs H Q _ => ∃ (O : Addr → Prop) (A : NA) (P : Prog) (RA RB : List NRow) (B : LT) (u v : V) (a b : An), vs = [.ref A.x, .ref B.t, u, v] ∧ NodesAt K w O H A P RA false ∧ LTabAt w H B RB false ∧ Tp H u a.data ∧ Tp H v b.data ∧ SameA RA RB a b ∧ AnOk a ∧ ∀ H', Same H H' → Q (.bl true) H'
theorem pure_lsame : PureOk 4 (spLSame K w) (t_law_same K w (spTold K w)) 9 := by
  refine ⟨fun vs H Q E ⟨_, _, _, _, _, _, _, _, _, _, e, _⟩ => by rw [e]; rfl, ?_⟩
  rintro vs H Q E ⟨O, A, P, RA, RB, B, u, v, a, b, rfl, hN, hT, tu, tv, hS, hok, q⟩
  show t_law_same K w _ _ [some (.ref A.x), some (.ref B.t), some u, some v, none, none, none, none, none] H
  unfold t_law_same
  have ob := hN.ob
  obtain ⟨obt, ⟨bs0, e1, e2, e3⟩, ne⟩ := id hT
  -- walk
  cases a with
  | need i =>
    cases b with
    | call j => exact hS.elim
    | worth j => exact hS.elim
    | fault j => exact hS.elim
    | need j =>
      obtain ⟨p, as, bs, ⟨ia, rfl, ha⟩, ⟨jb, rfl, hb⟩, hp, hl⟩ := hS
      obtain ⟨ua, x, y, rfl, eua, tx, ty⟩ := Tp.two (d := .str "need") (e := .int _) tu
      rw [tx.str_inv, ty.int_inv] at eua
      obtain ⟨va, x, y, rfl, eva, tx, ty⟩ := Tp.two (d := .str "need") (e := .int _) tv
      rw [tx.str_inv, ty.int_inv] at eva
      obtain ⟨rs, hra, hrb⟩ := same_rows hp
      have hlb : bs.length ≤ 10 := by have h1 := Paired.length hra; have h2 := Paired.length hrb; omega
      walk_at "gg"
      refine g_isi (r := true) (.tup eua) (by decide +kernel) ?_
      walk_at "gg"
      rename_i a2 H2 n2 e2' s2
      refine ⟨O, A, P, RA, false, ia, _, rfl, hN.same s2, ha, fun c ra => ?_⟩
      obtain ⟨t, ec, et⟩ := ra
      dsimp only at ec et
      obtain ⟨cb, hcb, rb⟩ := paired_at e2 hb
      obtain ⟨tb, ecb, etb⟩ := rb.mono (Same.tk s2)
      dsimp only at ecb etb
      walk_at "gg"
      refine g_ixL (.of (s2 _ _ e1)) (atI_nat (by rw [List.getElem?_map, hcb]; rfl)) ?_
      walk_at "gg"
      refine ⟨_, _, rfl, ?_⟩
      walk_at "gg"
      refine g_seqT ?_
      walk_at "gg"
      refine lc_gather et hl hra (fun x r H' Nx h s q => told_te (hN.same s2) h s q) fun D1 cs H3 f3 e3' hcs s3 => ?_
      have ec3 := s3 _ _ ec
      have ecb3 := s3 _ _ ecb
      have etb3 := s3 _ _ etb
      walk_at "gg"
      refine g_seqT ?_
      walk_at "gg"
      refine lc_gather etb3 hlb hrb (fun x r H' Nx h s q => row_te (hT.same (s2.trans s3)) h s q) fun D2 ds H4 f4 e4' hds s4 => ?_
      have ec4 := s4 _ _ ec3
      have ecb4 := s4 _ _ ecb3
      walk_at "gg"
      refine ⟨_, _, rfl, ?_⟩
      walk_at "gg"
      refine g_T (decide_eq_true rfl) ?_
      walk_at "gg"
      refine g_eqLLd (s4 _ _ e3') e4' (rowsAt_tps (rowsAt_mono (Same.tk s4) hcs)) (rowsAt_tps hds) (rows_shaped _) (rows_shaped _) ?_
      rw [rows_refl]
      exact q H4 (s2.trans (s3.trans s4))
  | call i =>
    cases b with
    | need j => exact hS.elim
    | worth j => exact hS.elim
    | fault j => exact hS.elim
    | call j =>
      obtain ⟨p, as, bs, ⟨ia, rfl, ha⟩, ⟨jb, rfl, hb⟩, hp, hl⟩ := hS
      obtain ⟨ua, x, y, rfl, eua, tx, ty⟩ := Tp.two (d := .str "call") (e := .int _) tu
      rw [tx.str_inv, ty.int_inv] at eua
      obtain ⟨va, x, y, rfl, eva, tx, ty⟩ := Tp.two (d := .str "call") (e := .int _) tv
      rw [tx.str_inv, ty.int_inv] at eva
      obtain ⟨rs, hra, hrb⟩ := same_rows hp
      have hlb : bs.length ≤ 10 := by have h1 := Paired.length hra; have h2 := Paired.length hrb; omega
      walk_at "gg"
      refine g_isi (r := true) (.tup eua) (by decide +kernel) ?_
      walk_at "gg"
      rename_i a2 H2 n2 e2' s2
      refine ⟨O, A, P, RA, false, ia, _, rfl, hN.same s2, ha, fun c ra => ?_⟩
      obtain ⟨t, ec, et⟩ := ra
      dsimp only at ec et
      obtain ⟨cb, hcb, rb⟩ := paired_at e2 hb
      obtain ⟨tb, ecb, etb⟩ := rb.mono (Same.tk s2)
      dsimp only at ecb etb
      walk_at "gg"
      refine g_ixL (.of (s2 _ _ e1)) (atI_nat (by rw [List.getElem?_map, hcb]; rfl)) ?_
      walk_at "gg"
      refine ⟨_, _, rfl, ?_⟩
      walk_at "gg"
      refine g_seqT ?_
      walk_at "gg"
      refine lc_gather et hl hra (fun x r H' Nx h s q => told_te (hN.same s2) h s q) fun D1 cs H3 f3 e3' hcs s3 => ?_
      have ec3 := s3 _ _ ec
      have ecb3 := s3 _ _ ecb
      have etb3 := s3 _ _ etb
      walk_at "gg"
      refine g_seqT ?_
      walk_at "gg"
      refine lc_gather etb3 hlb hrb (fun x r H' Nx h s q => row_te (hT.same (s2.trans s3)) h s q) fun D2 ds H4 f4 e4' hds s4 => ?_
      have ec4 := s4 _ _ ec3
      have ecb4 := s4 _ _ ecb3
      walk_at "gg"
      refine ⟨_, _, rfl, ?_⟩
      walk_at "gg"
      refine g_T (decide_eq_true rfl) ?_
      walk_at "gg"
      refine g_eqLLd (s4 _ _ e3') e4' (rowsAt_tps (rowsAt_mono (Same.tk s4) hcs)) (rowsAt_tps hds) (rows_shaped _) (rows_shaped _) ?_
      rw [rows_refl]
      exact q H4 (s2.trans (s3.trans s4))
  | fault s =>
    cases b with
    | need j => exact hS.elim
    | call j => exact hS.elim
    | worth j => exact hS.elim
    | fault s' =>
      cases (show s = s' from hS)
      obtain ⟨ua, x, y, rfl, eua, tx, ty⟩ := Tp.two (d := .str "fault") (e := .str s) tu
      rw [tx.str_inv, ty.str_inv] at eua
      obtain ⟨va, x, y, rfl, eva, tx, ty⟩ := Tp.two (d := .str "fault") (e := .str s) tv
      rw [tx.str_inv, ty.str_inv] at eva
      have hsh : SeqAt.shaped (An.fault s).data = true := fault_shaped (hok s rfl)
      walk_at "gg"
      refine g_isi (r := true) (.tup eua) (by decide +kernel) ?_
      walk_at "gg"
      rename_i a2 H2 n2 e2' s2
      refine g_eqD (Tp.dp (tu.mono (Same.tk s2))) (Tp.dp (tv.mono (Same.tk s2))) hsh hsh ?_
      rw [PySem.SeqAt.eqv_refl _ (SeqAt.canLay_of_shaped hsh)]
      walk_at "gg"
      obtain ⟨c, hc, hlen⟩ := fault_at (hok s rfl)
      refine g_ixS hlen hc ?_
      walk_at "gg"
      refine g_isi (r := false) (.str _) (by decide +kernel) ?_
      walk_at "gg"
      exact q H2 s2
  | worth wa =>
    cases b with
    | need j => exact hS.elim
    | call j => exact hS.elim
    | fault j => exact hS.elim
    | worth wb =>
      obtain ⟨ua, x, ux, rfl, eua, tx, tux⟩ := Tp.two (d := .str "worth") (e := wa.data) tu
      rw [tx.str_inv] at eua
      obtain ⟨va, x, vx, rfl, eva, tx, tvx⟩ := Tp.two (d := .str "worth") (e := wb.data) tv
      rw [tx.str_inv] at eva
      cases wa with
      | num n =>
        cases wb with
        | pair c d => exact hS.elim
        | fn g bs => exact hS.elim
        | num m =>
          cases (show n = m from hS)
          have tu0 := tu
          have tv0 := tv
          obtain ⟨ub, rfl, eub⟩ := tux.wnum
          obtain ⟨vb, rfl, evb⟩ := tvx.wnum
          walk_at "gg"
          refine g_isi (r := true) (.tup eua) (by decide +kernel) ?_
          walk_at "gg"
          rename_i a2 H2 n2 e2' s2
          refine g_eqD (Tp.dp (tu0.mono (Same.tk s2))) (Tp.dp (tv0.mono (Same.tk s2))) (num_shaped n) (num_shaped n) ?_
          rw [PySem.SeqAt.eqv_refl _ (SeqAt.canLay_of_shaped (num_shaped n))]
          walk_at "gg"
          refine g_isi (r := false) (.int _) (by decide +kernel) ?_
          walk_at "gg"
          exact q H2 s2
      | pair a0 a1 =>
        cases wb with
        | num n => exact hS.elim
        | fn g bs => exact hS.elim
        | pair b0 b1 =>
          obtain ⟨ub, rfl, eub⟩ := tux.wpair
          obtain ⟨vb, rfl, evb⟩ := tvx.wpair
          obtain ⟨rs, hra, hrb⟩ := same_rows (as := [a0, a1]) (bs := [b0, b1]) (.cons hS.1 (.cons hS.2 .nil))
          walk_at "gg"
          refine g_isi (r := true) (.tup eua) (by decide +kernel) ?_
          walk_at "gg"
          rename_i a2 H2 n2 e2' s2
          refine g_seqT ?_
          walk_at "gg"
          refine g_slT (.of (s2 _ _ eub)) (show ¬ (HT.sIx 3 0 (some 1) = 0 ∧ HT.sIx 3 3 none = 3) from by decide) fun l3 H3 n3 e3' s3 => ?_
          have e3a : H3 l3 = some (.tup ([a0, a1].map V.int)) := e3'
          walk_at "gg"
          refine lc_gather e3a (Nat.le_of_ble_eq_true rfl) hra (fun x r H' Nx h s q => told_te (hN.same (s2.trans s3)) h s q) fun D1 cs H5 f5 e5 hcs s5 => ?_
          have s25 := s2.trans (s3.trans s5)
          walk_at "gg"
          refine g_seqT ?_
          walk_at "gg"
          refine g_slT (.of (s25 _ _ evb)) (show ¬ (HT.sIx 3 0 (some 1) = 0 ∧ HT.sIx 3 3 none = 3) from by decide) fun l6 H6 n6 e6 s6 => ?_
          have e6a : H6 l6 = some (.tup ([b0, b1].map V.int)) := e6
          walk_at "gg"
          refine lc_gather e6a (Nat.le_of_ble_eq_true rfl) hrb (fun x r H' Nx h s q => row_te (hT.same (s25.trans s6)) h s q) fun D2 ds H7 f7 e7 hds s7 => ?_
          walk_at "gg"
          refine g_eqLLd ((s6.trans s7) _ _ e5) e7 (rowsAt_tps (rowsAt_mono (Same.tk (s6.trans s7)) hcs)) (rowsAt_tps hds) (rows_shaped _) (rows_shaped _) ?_
          rw [rows_refl]
          exact q H7 (s25.trans (s6.trans s7))
      | fn f as =>
        cases wb with
        | num n => exact hS.elim
        | pair c d => exact hS.elim
        | fn g bs =>
          obtain ⟨rfl, hp, hl⟩ := hS
          obtain ⟨ub, uc, rfl, eub, euc⟩ := tux.wfn
          obtain ⟨vb, vc, rfl, evb, evc⟩ := tvx.wfn
          obtain ⟨rs, hra, hrb⟩ := same_rows hp
          have hlb : bs.length ≤ 10 := by have h1 := Paired.length hra; have h2 := Paired.length hrb; omega
          walk_at "gg"
          refine g_isi (r := true) (.tup eua) (by decide +kernel) ?_
          walk_at "gg"
          rename_i a2 H2 n2 e2' s2
          refine g_slT (.of (s2 _ _ eub)) (show ¬ (HT.sIx 3 0 none = 0 ∧ HT.sIx 3 3 (some 2) = 3) from by decide) fun l3 H3 n3 e3' s3 => ?_
          walk_at "gg"
          refine g_slT (.of (s3 _ _ (s2 _ _ evb))) (show ¬ (HT.sIx 3 0 none = 0 ∧ HT.sIx 3 3 (some 2) = 3) from by decide) fun l4 H4 n4 e4 s4 => ?_
          have s24 := s2.trans (s3.trans s4)
          refine g_ne2 (x := "function") (y := f) (s4 _ _ e3') e4 ?_
          walk_at "gg"
          refine g_isi (r := true) (.tup (s24 _ _ euc)) (by decide +kernel) ?_
          walk_at "gg"
          refine g_seqT ?_
          walk_at "gg"
          refine lc_gather (s24 _ _ euc) hl hra (fun x r H' Nx h s q => told_te (hN.same s24) h s q) fun D1 cs H5 f5 e5 hcs s5 => ?_
          have s25 := s24.trans s5
          walk_at "gg"
          refine g_seqT ?_
          walk_at "gg"
          refine lc_gather (s25 _ _ evc) hlb hrb (fun x r H' Nx h s q => row_te (hT.same s25) h s q) fun D2 ds H7 f7 e7 hds s7 => ?_
          walk_at "gg"
          refine g_eqLLd (s7 _ _ e5) e7 (rowsAt_tps (rowsAt_mono (Same.tk s7) hcs)) (rowsAt_tps hds) (rows_shaped _) (rows_shaped _) ?_
          rw [rows_refl]
          exact q H7 (s25.trans s7)
end

/-! ### k17: a round of the law -/
theorem anOk_need (i : Int) : AnOk (.need i) := fun s h => by cases h
theorem anOk_call (i : Int) : AnOk (.call i) := fun s h => by cases h
theorem anOk_worth (v : Wo) : AnOk (.worth v) := fun s h => by cases h
theorem passA_ok {c : Bool} {i : Int} {ws : List Wo} : AnOk (passA c i ws) := by
  cases ws with
  | nil => cases c with
    | true => exact anOk_call _
    | false => exact anOk_need _
  | cons v r => exact anOk_worth _
theorem needOr_ok {S : List Int} {rows : List NRow} {f : Wo → List Wo → An × List NRow} (h : ∀ w r, AnOk (f w r).1) (ws : List Wo) : AnOk (needOr S rows f ws).1 := by
  cases ws with
  | nil => exact anOk_need _
  | cons w r => exact h w r
theorem lbehS_ok {P : Prog} {rows : List NRow} {cl : Bool} {p : Nat} {ts : List Int} {ws : List Wo} {S : List Int} {g : Gd} : AnOk (lbehS P cl p ts ws S rows g).1 := by
  have fn : AnOk (.fault "number") := fun s h => by cases h; exact .inr (.inl rfl)
  have fp : AnOk (.fault "pair") := fun s h => by cases h; exact .inl rfl
  have ff : AnOk (.fault "function") := fun s h => by cases h; exact .inr (.inr (.inl rfl))
  have fg : AnOk (.fault "great") := fun s h => by cases h; exact .inr (.inr (.inr rfl))
  have op : ∀ k w r, AnOk (lopN k S rows r w).1 := fun k w r => by
    cases w with
    | num a =>
      cases r with
      | nil => exact anOk_need _
      | cons v r =>
        show AnOk (twoN k a v)
        cases v with
        | num b =>
          show AnOk (if (reck k a b).natAbs < 10 ^ 60 then .worth (.num (reck k a b)) else .fault "great")
          split
          · exact anOk_worth _
          · exact fg
        | pair c d => exact fn
        | fn f gv => exact fn
    | pair a b => exact fn
    | fn f gv => exact fn
  obtain ⟨gp, gi, gn⟩ := g
  cases gp with
  | num m => exact anOk_worth _
  | name x => exact passA_ok
  | fn f =>
    show AnOk (if 0 < (P.door f).2 then (An.worth (.fn f []), rows) else (passA true (nodeN rows cl (((P.door f).1 : Nat), [])).1 ws, (nodeN rows cl (((P.door f).1 : Nat), [])).2)).1
    split
    · exact anOk_worth _
    · exact passA_ok
  | letp r c => exact passA_ok
  | shut c => exact fn
  | one k c =>
    refine needOr_ok (fun w r => ?_) ws
    cases w with
    | pair a b => exact passA_ok
    | num a => exact fp
    | fn f gv => exact fp
  | whn c d e =>
    refine needOr_ok (fun w r => ?_) ws
    cases w with
    | num a => exact passA_ok
    | pair a b => exact fn
    | fn f gv => exact fn
  | two k c d =>
    cases k with
    | plus => exact needOr_ok (op _) ws
    | less => exact needOr_ok (op _) ws
    | times => exact needOr_ok (op _) ws
    | below => exact needOr_ok (op _) ws
    | pair => exact anOk_worth _
    | give =>
      refine needOr_ok (fun w r => ?_) ws
      cases w with
      | num n => exact ff
      | pair a b => exact ff
      | fn f gv =>
        show AnOk (lgivenN P rows cl f gv (S.getD 1 0) r).1
        unfold lgivenN
        split
        · exact anOk_worth _
        · exact passA_ok
theorem lbehN_ok {P : Prog} {rows : List NRow} {cl : Bool} {p : Nat} {ts : List Int} {ws : List Wo} : AnOk (lbehN P rows cl p ts ws).1 := by
  unfold lbehN
  cases P.gds[p]? with
  | none => exact fun s h => by cases h; exact .inr (.inl rfl)
  | some g => exact lbehS_ok
theorem SameA.ok {A B : List NRow} {a b : An} (h : SameA A B a b) (k : AnOk b) : AnOk a := by
  intro s e
  subst e
  cases b with
  | fault t =>
    cases (show s = t from h)
    exact k s rfl
  | need i => exact h.elim
  | call i => exact h.elim
  | worth v => exact h.elim
structure St17 (K : PySem.W.Frag) (w : World) (H : Hp) (pen Lp gl sl : Addr) (v : V) (O0 O1 : Addr → Prop) (A : NA) (B : LT) (P : Prog) (RA RB : List NRow) : Prop where
  pn : PenAt H pen Lp
  gr : GrAt O0 H gl P
  szs : H sl = some (.lst (nInts (sizesL (allFn P))))
  tp : Tp H v P.data
  nd : NodesAt K w O1 H A P RA false
  lt : LTabAt w H B RB false
  n1 : ¬ O0 pen ∧ ¬ O1 pen ∧ sl ≠ pen ∧ pen ∉ [A.x, A.lk, A.dn] ∧ pen ∉ [B.t, B.lk, B.dn]
  n2 : ∀ m ∈ [B.lk, B.dn], m ≠ pen ∧ m ≠ Lp ∧ ¬ O0 m ∧ ¬ O1 m ∧ m ≠ sl ∧ m ∉ [A.x, A.lk, A.dn]
  n3 : ∀ m ∈ [A.lk, A.dn], m ≠ pen ∧ m ≠ Lp ∧ ¬ O0 m ∧ m ≠ sl ∧ m ∉ [B.t, B.lk, B.dn]
  th : ∀ b, O0 b ∨ O1 b → H b ≠ none
theorem pen_but {H H' : Hp} {pen Lp : Addr} {M : List Addr} (h : PenAt H pen Lp) (b : NBut M H H') (n1 : pen ∉ M) (n2 : Lp ∉ M) : PenAt H' pen Lp := by
  obtain ⟨ns, a, r, hp, hL, x⟩ := h
  exact ⟨ns, a, r, b _ _ n1 hp, b _ _ n2 hL, x⟩
theorem there_but {H H' : Hp} {M : List Addr} {b : Addr} (c : NBut M H H') (n : b ∉ M) (h : H b ≠ none) : H' b ≠ none := by
  obtain ⟨o, e⟩ := Option.ne_none_iff_exists'.mp h
  rw [c _ _ n e]
  exact fun z => by cases z
structure Lf (pen Lp gl sl : Addr) (O0 O1 : Addr → Prop) (A : NA) (B : LT) (l : Addr) : Prop where
  pen : l ≠ pen
  lp : l ≠ Lp
  o : ¬ O0 l ∧ ¬ O1 l
  sl : l ≠ sl
  a : l ∉ [A.x, A.lk, A.dn]
  b : l ∉ [B.t, B.lk, B.dn]
section
variable {K : PySem.W.Frag} {w : World} {H H' : Hp} {pen Lp gl sl l : Addr} {v : V} {O0 O1 : Addr → Prop} {A : NA} {B : LT} {P : Prog} {RA RB : List NRow}
theorem St17.same (h : St17 K w H pen Lp gl sl v O0 O1 A B P RA RB) (s : Same H H') : St17 K w H' pen Lp gl sl v O0 O1 A B P RA RB :=
  ⟨h.pn.same s, h.gr.mono (fun b o _ e => s b o e) (Same.tk s), s _ _ h.szs, h.tp.mono (Same.tk s), h.nd.same s, h.lt.same s, h.n1, h.n2, h.n3, fun b hb => there_but (NBut.same (M := []) s) (by simp) (h.th b hb)⟩
theorem St17.chg (h : St17 K w H pen Lp gl sl v O0 O1 A B P RA RB) (p : PenAt H' pen Lp) (c : Chg pen H H') : St17 K w H' pen Lp gl sl v O0 O1 A B P RA RB := by
  have k := h.pn.tk c
  have b : NBut [pen] H H' := NBut.chg c (by simp)
  obtain ⟨h1, h2, h3, h4, h5⟩ := h.n1
  simp only [List.mem_cons, List.not_mem_nil, or_false, not_or] at h4 h5
  refine ⟨p, h.gr.mono (fun b o ob e => c b o (fun z => h1 (z ▸ ob)) e) k, c _ _ h3 h.szs, h.tp.mono k, h.nd.but b k fun m hm => ?_, h.lt.but b k fun m hm => ?_, h.n1, h.n2, h.n3, fun x hx => there_but b (fun z => ?_) (h.th x hx)⟩
  · rw [List.mem_singleton.mp hm]; exact ⟨h2, h4.1, h4.2.1, h4.2.2⟩
  · rw [List.mem_singleton.mp hm]; exact ⟨h5.1, h5.2.1, h5.2.2⟩
  · rw [List.mem_singleton.mp z] at hx
    exact hx.elim h1 h2
theorem St17.growB {RB' : List NRow} (h : St17 K w H pen Lp gl sl v O0 O1 A B P RA RB) (l1 : LTabAt w H' B RB' false) (b1 : NBut [B.lk, B.dn] H H') (k1 : Tk H H') : St17 K w H' pen Lp gl sl v O0 O1 A B P RA RB' := by
  have hB := h.n2
  refine ⟨pen_but h.pn b1 (fun z => (hB _ z).1 rfl) (fun z => (hB _ z).2.1 rfl), h.gr.mono (fun b o ob e => b1 b o (fun z => (hB _ z).2.2.1 ob) e) k1, b1 _ _ (fun z => (hB _ z).2.2.2.2.1 rfl) h.szs, h.tp.mono k1, h.nd.but b1 k1 fun m hm => ?_, l1, h.n1, h.n2, h.n3, fun x hx => there_but b1 (fun z => hx.elim (hB _ z).2.2.1 (hB _ z).2.2.2.1) (h.th x hx)⟩
  obtain ⟨_, _, _, h4, _, h6⟩ := hB m hm
  simp only [List.mem_cons, List.not_mem_nil, or_false, not_or] at h6
  exact ⟨h4, h6.1, h6.2.1, h6.2.2⟩
theorem St17.growA {RA' : List NRow} (h : St17 K w H pen Lp gl sl v O0 O1 A B P RA RB) (l1 : NodesAt K w O1 H' A P RA' false) (b1 : NBut [A.lk, A.dn] H H') (k1 : Tk H H') : St17 K w H' pen Lp gl sl v O0 O1 A B P RA' RB := by
  have hA := h.n3
  have hO : ∀ m ∈ [A.lk, A.dn], ¬ O1 m := fun m hm => by
    simp only [List.mem_cons, List.not_mem_nil, or_false] at hm
    rcases hm with rfl | rfl
    · exact l1.ne.2.2.2.1
    · exact l1.ne.2.2.2.2.1
  refine ⟨pen_but h.pn b1 (fun z => (hA _ z).1 rfl) (fun z => (hA _ z).2.1 rfl), h.gr.mono (fun b o ob e => b1 b o (fun z => (hA _ z).2.2.1 ob) e) k1, b1 _ _ (fun z => (hA _ z).2.2.2.1 rfl) h.szs, h.tp.mono k1, l1, h.lt.but b1 k1 fun m hm => ?_, h.n1, h.n2, h.n3, fun x hx => there_but b1 (fun z => hx.elim (hA _ z).2.2.1 (hO _ z)) (h.th x hx)⟩
  have := (hA m hm).2.2.2.2
  simp only [List.mem_cons, List.not_mem_nil, or_false, not_or] at this
  exact this
theorem St17.chgl (h : St17 K w H pen Lp gl sl v O0 O1 A B P RA RB) (f : Lf pen Lp gl sl O0 O1 A B l) (c : Chg l H H') (k : Tk H H') : St17 K w H' pen Lp gl sl v O0 O1 A B P RA RB := by
  have b : NBut [l] H H' := NBut.chg c (by simp)
  have ha := f.a
  have hb := f.b
  simp only [List.mem_cons, List.not_mem_nil, or_false, not_or] at ha hb
  refine ⟨pen_but h.pn b (fun z => f.pen (List.mem_singleton.mp z).symm) (fun z => f.lp (List.mem_singleton.mp z).symm), h.gr.mono (fun b o ob e => c b o (fun z => f.o.1 (z ▸ ob)) e) k, c _ _ f.sl.symm h.szs, h.tp.mono k, h.nd.but b k fun m hm => ?_, h.lt.but b k fun m hm => ?_, h.n1, h.n2, h.n3, fun x hx => there_but b (fun z => ?_) (h.th x hx)⟩
  · rw [List.mem_singleton.mp hm]; exact ⟨f.o.2, ha.1, ha.2.1, ha.2.2⟩
  · rw [List.mem_singleton.mp hm]; exact ⟨hb.1, hb.2.1, hb.2.2⟩
  · rw [List.mem_singleton.mp z] at hx
    exact hx.elim f.o.1 f.o.2
theorem St17.fresh (h : St17 K w H pen Lp gl sl v O0 O1 A B P RA RB) (n : H l = none) : Lf pen Lp gl sl O0 O1 A B l := by
  obtain ⟨n1, n2⟩ := h.pn.ne n
  obtain ⟨as, e1, e2, e3⟩ := h.nd.kept
  obtain ⟨ob, ⟨bs, f1, f2, f3⟩, _⟩ := h.lt
  refine ⟨n1.symm, n2.symm, ⟨fun z => h.th l (.inl z) n, fun z => h.th l (.inr z) n⟩, fun z => ?_, fun z => ?_, fun z => ?_⟩
  · rw [z, h.szs] at n; cases n
  · simp only [List.mem_cons, List.not_mem_nil, or_false] at z
    rcases z with rfl | rfl | rfl
    · rw [h.nd.ob] at n; cases n
    · rw [e1] at n; cases n
    · rcases e3.at_ with e | ⟨_, e⟩ <;> rw [e] at n <;> cases n
  · simp only [List.mem_cons, List.not_mem_nil, or_false] at z
    rcases z with rfl | rfl | rfl
    · rw [ob] at n; cases n
    · rw [f1] at n; cases n
    · rcases f3.at_ with e | ⟨_, e⟩ <;> rw [e] at n <;> cases n
theorem Lf.la (f : Lf pen Lp gl sl O0 O1 A B l) : l ∉ [A.lk, A.dn] := fun z => f.a (List.mem_cons_of_mem _ z)
theorem Lf.lb (f : Lf pen Lp gl sl O0 O1 A B l) : l ∉ [B.lk, B.dn] := fun z => f.b (List.mem_cons_of_mem _ z)
theorem paired_self : ∀ {us : List V}, (∀ u ∈ us, ∃ c, u = V.ref c) → Paired (Lk K H 1) us us
  | [], _ => .nil
  | u :: us, h => .cons (by obtain ⟨c, rfl⟩ := h u (.head _); exact .inr (.inl ⟨c, rfl, rfl⟩)) (paired_self fun x hx => h x (.tail _ hx))
theorem g_neSelf {a b : Addr} {us : List V} {Q : VK} (ha : H a = some (.lst us)) (hb : H b = some (.lst us)) (h : ∀ u ∈ us, ∃ c, u = V.ref c) (q : Q (.bl false) H) : rNeG K (.ref a) (.ref b) H Q :=
  .inr (.inr (.inr (.inl ⟨1, by decide, .inl ⟨a, b, us, us, rfl, rfl, .of ha, .of hb, paired_self h⟩, q⟩)))
theorem wos_refs : ∀ {us : List V} {ws : List Wo}, Wos H us ws → ∀ u ∈ us, ∃ c, u = V.ref c
  | us, [], h, u, hu => by rw [Tps.nil_inv h] at hu; cases hu
  | us, w0 :: ws, h, u, hu => by
    obtain ⟨u0, us', rfl, t0, ts⟩ := Tps.cons_inv (ds := ws.map Wo.data) h
    rcases List.mem_cons.mp hu with rfl | hu
    · obtain ⟨a, xs, rfl, _⟩ := t0.wo
      exact ⟨a, rfl⟩
    · exact wos_refs (ws := ws) ts u hu
end

/-! ### k17: a round of the law, walked -/
def t17w (K : PySem.W.Frag) (w : World) : TS :=
  (tDrop (tBM K "list" rAppendG (tVar 19) (tCons (tCall spLWish [] E0 (tCons (tVar 1) (tCons (tVar 2) (tCons (tIxG K w (tIxG K w (tIxG K w (tIxG K w (tVar 3) (tC (.int 0))) (tVar 14)) (tC (.int 0))) (tC (.int 0))) (tCons (tVar 12) tNil))))) tNil)))
def t17r (K : PySem.W.Frag) (w : World) : TS :=
  (tSeq (tAsg (tCB (rListG K) (tCons (tVar 19) tNil)) (gName 21))
  (tSeq (tAsg (tCall (spLBehind w) [] E0 (tCons (tVar 3) (tCons (tVar 10) (tCons (tVar 18) (tCons (tVar 19) tNil))))) (gName 22))
  (tSeq (tIfS (tOr (tNot (tTru K (tCall (spLSame K w) [] E0 (tCons (tVar 9) (tCons (tVar 10) (tCons (tCall (spBehindN K w) [] E0 (tCons (tVar 9) (tCons (tVar 17) (tCons (tVar 21) tNil)))) (tCons (tVar 22) tNil))))))) (tTest (tOp (rNeG K) (tVar 21) (tVar 19)))) (tRet (tC (.bl false))) tNext)
  (tSeq (tIfS (tTest (tOp (rInG K w true) (tIxG K w (tVar 22) (tC (.int 0))) (tTupN (tCons (tC (.str "need")) (tCons (tC (.str "call")) tNil))))) tBreak tNext)
  (t17w K w)))))
/-- what stays in the rounds of a turn -/
structure R17 (P : Prog) (R : List NRow) (m n p : Nat) (ts : List Int) : Prop where
  fine : P.fine
  low : ∀ r ∈ R, Low R r.2
  lts : Low R ts
  pos : 0 < m ∧ m ≤ 60
  at_ : ∀ x : Int, 0 ≤ x → x < m → ∃ r, AtN R x r
  row : R[n]? = some (((p : Nat) : Int), ts)
  sz : (sizesL (allFn P))[p]? = some ts.length
  len : R.length ≤ 1000
theorem WIn.low {P : Prog} {R : List NRow} {m n p : Nat} {ts : List Int} {w0 : Wo} (h : R17 P R m n p ts) (i : WIn m w0) (o : WoOk P w0) : WLow R w0 := by
  cases w0 with
  | num n => exact trivial
  | pair a b =>
    refine ⟨Nat.le_of_ble_eq_true rfl, fun x hx => ?_⟩
    simp only [List.mem_cons, List.not_mem_nil, or_false] at hx
    rcases hx with rfl | rfl
    · exact h.at_ _ i.1.1 i.1.2
    · exact h.at_ _ i.2.1 i.2.2
  | fn f ts =>
    have := door_le h.fine f
    have := o.2
    exact ⟨by omega, fun x hx => h.at_ x (i x hx).1 (i x hx).2⟩
/-- in a round: worths, tables -/
structure In17 (H : Hp) (P : Prog) (R RA RB : List NRow) (m p k : Nat) (ts : List Int) (t l : Addr) (us : List V) (ws : List Wo) : Prop where
  pa : Pre R RA
  pb : Pre R RB
  la : RA.length ≤ R.length + 2 * k
  lb : RB.length ≤ R.length + 100001 * k
  el : H l = some (.lst us)
  tw : Wos H us ws
  few : us.length ≤ k
  ok : ∀ w0 ∈ ws, WoOk P w0
  wi : ∀ w0 ∈ ws, WIn m w0
  fit : wsFit P p ws
  et : H t = some (.tup (ts.map V.int))
section
variable {K : PySem.W.Frag} {w : World} {H H' : Hp} {pen Lp gl sl l t : Addr} {v : V} {O0 O1 : Addr → Prop} {A : NA} {B : LT} {P : Prog} {R RA RB : List NRow} {m n p k : Nat} {ts : List Int} {us : List V} {ws : List Wo} {D : Ends} {x0 x4 x5 x6 x7 x8 x11 x13 x16 x20 x21 x22 : Option V}
theorem t17r_ok (hR : R17 P R m n p ts) (hS : St17 K w H pen Lp gl sl v O0 O1 A B P RA RB) (hI : In17 H P R RA RB m p k ts t l us ws) (fl : Lf pen Lp gl sl O0 O1 A B l) (hk : k < 4)
    (qb : ∀ RA' RB' x21 x22 H', St17 K w H' pen Lp gl sl v O0 O1 A B P RA' RB' → D.bk [x0, some (.ref pen), some v, some (.ref gl), some (.ref sl), x5, x6, x7, x8, some (.ref A.x), some (.ref B.t), x11, some (.int (m : Nat)), x13, some (.int (p : Nat)), some (.ref t), x16, some (.int (n : Nat)), some (.int (n : Nat)), some (.ref l), x20, x21, x22] H')
    (qn : ∀ RA' RB' us' ws' x21 x22 H', St17 K w H' pen Lp gl sl v O0 O1 A B P RA' RB' → In17 H' P R RA' RB' m p (k + 1) ts t l us' ws' → D.nx [x0, some (.ref pen), some v, some (.ref gl), some (.ref sl), x5, x6, x7, x8, some (.ref A.x), some (.ref B.t), x11, some (.int (m : Nat)), x13, some (.int (p : Nat)), some (.ref t), x16, some (.int (n : Nat)), some (.int (n : Nat)), some (.ref l), x20, x21, x22] H') :
    t17r K w D [x0, some (.ref pen), some v, some (.ref gl), some (.ref sl), x5, x6, x7, x8, some (.ref A.x), some (.ref B.t), x11, some (.int (m : Nat)), x13, some (.int (p : Nat)), some (.ref t), x16, some (.int (n : Nat)), some (.int (n : Nat)), some (.ref l), x20, x21, x22] H := by
  unfold t17r
  obtain ⟨ipa, ipb, ila, ilb, iel, itw, ifew, iok, iwi, ifit, iet⟩ := hI
  have hlen := hR.len
  walk_at "gg"
  rename_i h1 H1 n1 e1 s1
  have S1 := hS.same s1
  have f1 : Lf pen Lp gl sl O0 O1 A B h1 := hS.fresh n1
  have hO : ∀ m ∈ [B.lk, B.dn], ¬ O0 m := fun m hm => (hS.n2 m hm).2.2.1
  walk_at "gg"
  refine ⟨O0, gl, P, B, RB, false, n, p, ts, l, us, ws, rfl, S1.gr, hR.fine, S1.lt, hO, ipb.at_ hR.row, hR.sz, s1 _ _ iel, itw.mono (Same.tk s1), iok, ifit, fl.lb, by omega, fun v22 H2 lt2 tv2 b2 k2 => ?_⟩
  have S2 := S1.growB lt2 b2 k2
  have e12 := b2 _ _ f1.lb e1
  have el2 := b2 _ _ fl.lb (s1 _ _ iel)
  have tw2 := (itw.mono (Same.tk s1)).mono k2
  have ob2 := S2.nd.ob
  have hll := lbehN_ln (P := P) (rows := RB) (cl := false) (p := p) (ts := ts) (ws := ws) hR.fine hR.sz
  have hla := behN_ln (P := P) (rows := RA) (cl := false) (p := p) (ts := ts) (ws := ws)
  obtain ⟨hsame, hpa, hpb⟩ := beh_same (p := p) hR.fine hR.low hR.lts hR.sz (fun w0 h => WIn.low hR (iwi w0 h) (iok w0 h)) ipa ipb
  have hbok : AnOk (lbehN P RB false p ts ws).1 := lbehN_ok
  have hfs : ∀ w0, asks (lbehN P RB false p ts ws).1 → wsFit P p (ws ++ [w0]) := fun w0 h => fit_step h
  generalize (lbehN P RB false p ts ws).1 = bn at tv2 hsame hbok hfs
  generalize (lbehN P RB false p ts ws).2 = RB' at S2 hll hsame hpb lt2
  walk_at "gg"
  refine ⟨O1, A, P, RA, false, n, p, ts, h1, us, ws, rfl, S2.nd, hR.fine, ipa.at_ hR.row, hR.sz, e12, tw2, iok, ifit, f1.la, by omega, fun v3 H3 nd3 tv3 b3 k3 => ?_⟩
  have S3 := S2.growA nd3 b3 k3
  have e13 := b3 _ _ f1.la e12
  have el3 := b3 _ _ fl.la el2
  have tw3 := tw2.mono k3
  have et3 : H3 t = _ := k3 _ _ (k2 _ _ (s1 _ _ iet))
  have tv23 := tv2.mono k3
  generalize (behN P RA false p ts ws).1 = an at tv3 hsame
  generalize (behN P RA false p ts ws).2 = RA' at S3 hla hsame hpa nd3
  clear hS S1 S2 lt2 nd3 tv2 e12 e1 b2 b3 k2 k3 itw iel iet tw2 el2
  walk_at "gg"
  refine ⟨O1, A, P, RA', RB', B, v3, v22, an, bn, rfl, S3.nd, S3.lt, tv3, tv23, hsame, hsame.ok hbok, fun H4 s4 => ?_⟩
  have S4 := S3.same s4
  have e14 := s4 _ _ e13
  have el4 := s4 _ _ el3
  have tw4 := tw3.mono (Same.tk s4)
  have et4 := s4 _ _ et3
  have tv4 := tv23.mono (Same.tk s4)
  clear S3 e13 el3 tw3 et3 tv23 tv3
  walk_at "gg"
  refine g_neSelf e14 el4 (wos_refs tw4) ?_
  walk_at "gg"
  have hl1 : RA'.length ≤ R.length + 2 * (k + 1) := by omega
  have hl2 : RB'.length ≤ R.length + 100001 * (k + 1) := by
    rw [Nat.mul_succ, ← Nat.add_assoc]
    exact Nat.le_trans hll (Nat.add_le_add_right ilb _)
  have go : ∀ x22' H5, Same H4 H5 → asks bn → t17w K w D [x0, some (.ref pen), some v, some (.ref gl), some (.ref sl), x5, x6, x7, x8, some (.ref A.x), some (.ref B.t), x11, some (.int (m : Nat)), x13, some (.int (p : Nat)), some (.ref t), x16, some (.int (n : Nat)), some (.int (n : Nat)), some (.ref l), x20, some (.ref h1), x22'] H5 := by
    intro x22' H5 s5 hask
    have S5 := S4.same s5
    unfold t17w
    obtain ⟨g0, dd, us0, eg1, eg2, hgd, _, _, _, _⟩ := S5.gr.ex
    obtain ⟨g, hg⟩ : ∃ g, P.gds[p]? = some g := ⟨_, List.getElem?_eq_getElem (by rw [gds_length]; exact (List.getElem?_eq_some_iff.mp hR.sz).1)⟩
    obtain ⟨vg, hv, b, il, u, nv, rfl, eb, tu, ol, eil, tn⟩ := paired_at hgd hg
    obtain ⟨pa, xs, rfl, epa, txs⟩ := tu.part
    have el5 := s5 _ _ el4
    walk_at "gg"
    refine g_ixL (.of eg2) (atI_nat hv) ?_
    walk_at "gg"
    have hm := hR.pos
    refine ⟨pen, Lp, v, P, _, m, rfl, S5.pn, S5.tp, hR.fine, hm.1, by omega, fun vw w0 H6 tvw hw hi hP6 c6 => ?_⟩
    have S6 := S5.chg hP6 c6
    have el6 := c6 _ _ fl.pen el5
    have k46 : Tk H4 H6 := (Same.tk s5).trans (S5.pn.tk c6)
    walk_at "gg"
    refine g_append el6 (by show _ < 16777216; omega) fun H7 e7 c7 => ?_
    have k7 := c7.tkl el6
    have S7 := S6.chgl fl c7 k7
    walk_at "gg"
    refine qn RA' RB' (us ++ [vw]) (ws ++ [w0]) _ _ H7 S7 ⟨ipa.trans hpa, ipb.trans hpb, hl1, hl2, e7, ?_, by rw [List.length_append]; show _ + 1 ≤ _; omega, fun x hx => ?_, fun x hx => ?_, hfs w0 hask, k7 _ _ (k46 _ _ et4)⟩
    · show Tps H7 (us ++ [vw]) ((ws ++ [w0]).map Wo.data)
      rw [List.map_append]
      exact Tps.append (tw4.mono (k46.trans k7)) (.one (tvw.mono k7))
    · rcases List.mem_append.mp hx with hx | hx
      · exact iok x hx
      · rw [List.mem_singleton.mp hx]; exact hw
    · rcases List.mem_append.mp hx with hx | hx
      · exact iwi x hx
      · rw [List.mem_singleton.mp hx]; exact hi
  cases bn with
  | need i =>
    obtain ⟨ua, x, y, rfl, eua, tx, ty⟩ := Tp.two (d := .str "need") (e := .int _) tv4
    rw [tx.str_inv, ty.int_inv] at eua
    walk_at "gg"
    rename_i a5 H5 n5 e5 s5
    exact go _ H5 s5 trivial
  | call i =>
    obtain ⟨ua, x, y, rfl, eua, tx, ty⟩ := Tp.two (d := .str "call") (e := .int _) tv4
    rw [tx.str_inv, ty.int_inv] at eua
    walk_at "gg"
    rename_i a5 H5 n5 e5 s5
    exact go _ H5 s5 trivial
  | worth w0 =>
    obtain ⟨ua, x, y, rfl, eua, tx, ty⟩ := Tp.two (d := .str "worth") (e := w0.data) tv4
    rw [tx.str_inv] at eua
    walk_at "gg"
    rename_i a5 H5 n5 e5 s5
    exact qb _ _ _ _ _ (S4.same s5)
  | fault s =>
    obtain ⟨ua, x, y, rfl, eua, tx, ty⟩ := Tp.two (d := .str "fault") (e := .str s) tv4
    rw [tx.str_inv, ty.str_inv] at eua
    walk_at "gg"
    rename_i a5 H5 n5 e5 s5
    exact qb _ _ _ _ _ (S4.same s5)
end

/-! ### k17: the law -/
structure Base17 (H : Hp) (pen Lp gl sl : Addr) (v : V) (O0 : Addr → Prop) (P : Prog) : Prop where
  pn : PenAt H pen Lp
  gr : GrAt O0 H gl P
  szs : H sl = some (.lst (nInts (sizesL (allFn P))))
  tp : Tp H v P.data
  th : ∀ b, O0 b → H b ≠ none
  n1 : ¬ O0 pen ∧ sl ≠ pen
def rowsF (f i : Nat) : List NRow := (List.range i).map fun j => (((f + j : Nat) : Int), [])
theorem rowsF_len (f i : Nat) : (rowsF f i).length = i := by unfold rowsF; rw [List.length_map, List.length_range]
theorem rowsF_succ (f i : Nat) : rowsF f (i + 1) = rowsF f i ++ [(((f + i : Nat) : Int), [])] := by unfold rowsF; rw [List.range_succ, List.map_append]; rfl
theorem rowsF_node (f i : Nat) : nodeN (rowsF f i) false (((f + i : Nat) : Int), []) = (((i : Nat) : Int), rowsF f (i + 1)) := by
  have hn : rowIx (rowsF f i) (((f + i : Nat) : Int), []) = none := rowIx_none.mpr fun h => by
    obtain ⟨j, hj, e⟩ := List.mem_map.mp h
    have h1 := List.mem_range.mp hj
    have h2 : ((f + j : Nat) : Int) = ((f + i : Nat) : Int) := congrArg Prod.fst e
    omega
  unfold nodeN
  rw [hn]
  dsimp only
  rw [if_neg (by decide), rowsF_len, rowsF_succ]
theorem rowsF_at {f m : Nat} {x : Int} (h0 : 0 ≤ x) (h1 : x < m) : ∃ r, AtN (rowsF f m) x r := by
  have h : x.toNat < (rowsF f m).length := by rw [rowsF_len]; omega
  exact ⟨_, x.toNat, by omega, List.getElem?_eq_getElem h⟩
theorem rowsF_nil {f m : Nat} {r : NRow} (h : r ∈ rowsF f m) : r.2 = [] := by
  obtain ⟨j, _, rfl⟩ := List.mem_map.mp h
  rfl
theorem r17_of {P : Prog} {f m p n : Nat} {ts : List Int} (hF : P.fine) (hm : 0 < m ∧ m ≤ 60) (hts : ∀ x ∈ ts, 0 ≤ x ∧ x < m) (hsz : (sizesL (allFn P))[p]? = some ts.length) (hl : ts.length ≤ 4)
    (hn : (nodeN (rowsF f m) false (((p : Nat) : Int), ts)).1 = ((n : Nat) : Int)) : R17 P (nodeN (rowsF f m) false (((p : Nat) : Int), ts)).2 m n p ts := by
  have pre := nodeN_pre (rowsF f m) (((p : Nat) : Int), ts)
  have at_ : ∀ x : Int, 0 ≤ x → x < m → ∃ r, AtN (nodeN (rowsF f m) false (((p : Nat) : Int), ts)).2 x r := fun x h0 h1 => by
    obtain ⟨r, hr⟩ := rowsF_at (f := f) h0 h1
    exact ⟨r, hr.mono pre⟩
  have low : Low (nodeN (rowsF f m) false (((p : Nat) : Int), ts)).2 ts := ⟨by omega, fun x hx => at_ x (hts x hx).1 (hts x hx).2⟩
  refine ⟨hF, fun r hr => ?_, low, hm, at_, ?_, hsz, ?_⟩
  · have : r ∈ rowsF f m ∨ r = (((p : Nat) : Int), ts) := by
      unfold nodeN at hr
      cases h : rowIx (rowsF f m) (((p : Nat) : Int), ts) with
      | some i => rw [h] at hr; exact .inl hr
      | none =>
        rw [h] at hr
        dsimp only at hr
        rw [if_neg (by decide)] at hr
        rcases List.mem_append.mp hr with hr | hr
        · exact .inl hr
        · exact .inr (List.mem_singleton.mp hr)
    rcases this with h | rfl
    · rw [rowsF_nil h]
      exact ⟨Nat.zero_le _, fun x hx => by cases hx⟩
    · exact low
  · obtain ⟨i, e, h⟩ := nodeN_at (rowsF f m) (((p : Nat) : Int), ts)
    rw [hn] at e
    have : n = i := by omega
    rw [this]
    exact h
  · have := nodeN_ln (rowsF f m) false (((p : Nat) : Int), ts)
    rw [rowsF_len] at this
    omega
section
variable {K : PySem.W.Frag} {w : World} {H H' : Hp} {pen Lp gl sl : Addr} {v : V} {O0 O1 : Addr → Prop} {A : NA} {B : LT} {P : Prog} {RA RB : List NRow}
theorem St17.base (h : St17 K w H pen Lp gl sl v O0 O1 A B P RA RB) : Base17 H pen Lp gl sl v O0 P := ⟨h.pn, h.gr, h.szs, h.tp, fun b hb => h.th b (.inl hb), h.n1.1, h.n1.2.2.1⟩
theorem mk17 {H4 H5 H6 H7 H8 H9 : Hp} {lk dn t : Addr} (hb : Base17 H4 pen Lp gl sl v O0 P) (s5 : Same H4 H5) (fx4 : H4 A.x = none) (hN : NodesAt K w O1 H6 A P [] false) (hnew : NewN H5 H6 A O1) (c6 : Chg A.x H5 H6)
    (flk : H6 lk = none) (elk : H7 lk = some (.lst [])) (s7 : Same H6 H7) (ndn : H7 dn = none) (edn : H8 dn = some (.dK [])) (s8 : Same H7 H8) (nt : H8 t = none) (et : H9 t = some (.lst [.ref lk, .ref dn, .bl false])) (s9 : Same H8 H9) :
    St17 K w H9 pen Lp gl sl v O0 O1 A ⟨t, lk, dn⟩ P [] [] := by
  have s46 : Same H4 H6 := Same.chg s5 fx4 c6
  have s69 := s7.trans (s8.trans s9)
  have s49 := s46.trans s69
  obtain ⟨pns, pa_, pr_, ehp, ehL, _⟩ := id hb.pn
  have np4 : H4 pen ≠ none := by rw [ehp]; exact fun z => by cases z
  have nL4 : H4 Lp ≠ none := by rw [ehL]; exact fun z => by cases z
  have esl4 : H4 sl ≠ none := by rw [hb.szs]; exact fun z => by cases z
  have fO1 : ∀ b, O1 b → H4 b = none := fun b h => s5.free (hnew.o b h).1
  have tO1 : ∀ b, O1 b → H6 b ≠ none := fun b h => (hnew.o b h).2
  have ex6 : ∀ m ∈ [A.x, A.lk, A.dn], H6 m ≠ none := fun m hm => by
    obtain ⟨as, e1, e2, e3⟩ := hN.kept
    simp only [List.mem_cons, List.not_mem_nil, or_false] at hm
    rcases hm with rfl | rfl | rfl
    · rw [hN.ob]; exact fun z => by cases z
    · rw [e1]; exact fun z => by cases z
    · rcases e3.at_ with e | ⟨_, e⟩ <;> rw [e] <;> exact fun z => by cases z
  have fA4 : ∀ m ∈ [A.x, A.lk, A.dn], H4 m = none := fun m hm => by
    simp only [List.mem_cons, List.not_mem_nil, or_false] at hm
    rcases hm with rfl | rfl | rfl
    · exact fx4
    · exact s5.free hnew.lk
    · exact s5.free hnew.dn
  have fdn : H6 dn = none := s7.free ndn
  have ft : H6 t = none := s7.free (s8.free nt)
  have fB : ∀ m ∈ [t, lk, dn], H6 m = none := fun m hm => by
    simp only [List.mem_cons, List.not_mem_nil, or_false] at hm
    rcases hm with rfl | rfl | rfl <;> assumption
  refine ⟨hb.pn.same s49, hb.gr.mono (fun b o _ e => s49 b o e) (Same.tk s49), s49 _ _ hb.szs, hb.tp.mono (Same.tk s49), hN.same s69, ⟨et, ⟨[], s9 _ _ (s8 _ _ elk), .nil, .inr ⟨rfl, s9 _ _ edn⟩, fun _ h => by cases h⟩, ?_⟩, ?_, ?_, ?_, ?_⟩
  · exact ⟨ne_of_none elk ndn, (ne_of_none (s8 _ _ elk) nt).symm, (ne_of_none edn nt).symm⟩
  · exact ⟨hb.n1.1, fun z => np4 (fO1 _ z), hb.n1.2, fun z => np4 (fA4 _ z), fun z => np4 (s46.free (fB _ z))⟩
  · intro m hm
    have hm6 : H6 m = none := fB m (List.mem_cons_of_mem _ hm)
    have hm4 := s46.free hm6
    exact ⟨fun z => np4 (by rw [← z]; exact hm4), fun z => nL4 (by rw [← z]; exact hm4), fun z => hb.th _ z hm4, fun z => tO1 _ z hm6, fun z => esl4 (by rw [← z]; exact hm4), fun z => ex6 _ z hm6⟩
  · intro m hm
    have hm4 : H4 m = none := fA4 m (List.mem_cons_of_mem _ hm)
    have hm6 : H6 m ≠ none := ex6 m (List.mem_cons_of_mem _ hm)
    exact ⟨fun z => np4 (by rw [← z]; exact hm4), fun z => nL4 (by rw [← z]; exact hm4), fun z => hb.th _ z hm4, fun z => esl4 (by rw [← z]; exact hm4), fun z => hm6 (fB _ z)⟩
  · intro b hb'
    rcases hb' with h | h
    · exact there_but (NBut.same (M := []) s49) (by simp) (hb.th b h)
    · exact there_but (NBut.same (M := []) s69) (by simp) (tO1 b h)
end
/-- between the turns -/
def Pv17 (a pen Lp gl sl : Addr) (v : V) (O0 : Addr → Prop) (P : Prog) (σ : L2.St) (H : Hp) : Prop :=
  ∃ (x5 x6 x7 x8 x9 x10 x11 x12 x13 x14 x15 x16 x17 x18 x19 x20 x21 x22 : Option V), σ = [some (.ref a), some (.ref pen), some v, some (.ref gl), some (.ref sl), x5, x6, x7, x8, x9, x10, x11, x12, x13, x14, x15, x16, x17, x18, x19, x20, x21, x22] ∧ Base17 H pen Lp gl sl v O0 P
theorem pure_law17 {K : PySem.W.Frag} {w : World} : PureOk 1 (spLaw K) (t_law K w (spPen K) spProgram spLGrounds (spLMany 12) (spNodesInit K w) spDraw (spNode K w) (spLNode w) (spLBehind w) (spLSame K w) (spBehindN K w) spLWish) 23 := by
  refine ⟨fun vs H Q E ⟨_, _, e, _⟩ => by rw [e]; rfl, ?_⟩
  rintro vs H Q E ⟨a, ns, rfl, hS, hl, q⟩
  show t_law K w _ _ _ _ _ _ _ _ _ _ _ _ _ [some (.ref a), none, none, none, none, none, none, none, none, none, none, none, none, none, none, none, none, none, none, none, none, none, none] H
  unfold t_law
  walk_at "gg"
  refine ⟨a, ns, rfl, hS, hl, fun pen Lp H1 np nL hP1 s1 => ?_⟩
  walk_at "gg"
  refine ⟨pen, Lp, rfl, hP1, fun v P H2 tP hF hP2 c2 => ?_⟩
  obtain ⟨pa, fa, u, vs, rfl, epa, efa, tfs, tas⟩ := id tP.prog
  walk_at "gg"
  refine ⟨.ref pa, P, rfl, tP, hF, fun gl g dd us H3 ngl ng ndd egl eg hg hdr s3 => ?_⟩
  have hvl : vs.length = P.fs.length := by rw [tfs.length, List.length_map]
  have hfew := hF.few
  have epa3 := s3 _ _ epa
  walk_at "gg"
  rename_i f H4 nf ef s4
  walk_at "gg"
  refine g_seqT ?_
  walk_at "gg"
  rename_i a5 H5 n5 e5 s5 a6 H6 n6 e6 s6 a7 H7 n7 e7 s7
  have s57 := s5.trans (s6.trans s7)
  have s27 := s3.trans (s4.trans s57)
  refine g_addTn (s27 _ _ efa) e7 (by rw [hvl]; show _ + 1 ≤ 16777216; omega) (by simp) fun rl H8 er s8 => ?_
  have s28 := s27.trans s8
  have s48 := s57.trans s8
  have tr : Tps H8 (vs ++ [.ref a6]) ((allFn P).map Fn1.data) := by
    unfold allFn
    rw [List.map_append]
    exact Tps.append (tfs.mono (Same.tk s28)) (.one (.tup (s8 _ _ (s7 _ _ e6)) (.cons (.str _) (.cons (.tup (s8 _ _ (s7 _ _ (s6 _ _ e5))) .nil) (.one (tas.mono (Same.tk s28)))))))
  refine g_isT (.of er) ?_
  have fnf : H3 f = none := nf
  have ef8 := s48 _ _ ef
  have hrl : (vs ++ [V.ref a6]).length = (allFn P).length := by rw [tr.length, List.length_map]
  have htot := hF.total
  rw [← allFn_bodies] at htot
  clear e5 e6 e7 n5 n6 n7 s5 s6 s7 s57 s27
  refine for_T (xs := vs ++ [.ref a6]) (fun k σ H' => ∃ (x5 x6 x7 : Option V) (l : Addr), σ = [some (.ref a), some (.ref pen), some (.ref pa), some (.ref gl), some (.ref l), x5, x6, x7, none, none, none, none, none, none, none, none, none, none, none, none, none, none, none] ∧ H' l = some (.lst (nInts (sizesL ((allFn P).take k)))) ∧ H3 l = none ∧ H' rl = some (.tup (vs ++ [.ref a6])) ∧ Same H8 H')
    (fun k σ H' ⟨_, _, _, _, _, _, _, e, _⟩ => e) ⟨_, _, _, f, rfl, ef8, fnf, er, .refl _⟩ ?_ ?_
  · rintro k x σ H9 hx ⟨x5, x6, x7, l, rfl, el, fl, er9, s9⟩
    obtain ⟨dd9, hdd, tx⟩ := (tr.mono (Same.tk s9)).get hx
    rw [List.getElem?_map] at hdd
    obtain ⟨fn, hfn, rfl⟩ := Option.map_eq_some_iff.mp hdd
    obtain ⟨h4, hg4, hz, hd⟩ := allFn_fine hF fn (List.mem_of_getElem? hfn)
    obtain ⟨a7, b7, u7, rfl, ea7, eb7, tu7⟩ := tx.fn1
    refine g_un3 ea7 ?_
    walk_at "gg"
    rename_i l1 H10 nl1 el1 s10
    rw [List.length_map] at el1
    refine ⟨u7, fn.body, rfl, tu7.mono (Same.tk s10), hg4, hz, hd, fun H11 s11 => ?_⟩
    refine ⟨l1, _, _, rfl, rfl, s11 _ _ el1, by omega, by omega, by show 1 * _ ≤ 16777216; rw [Int.toNat_natCast]; omega, fun l2 H12 nl2 el2 s12 => ?_⟩
    rw [Int.toNat_natCast, rep_nInts] at el2
    have s912 := s10.trans (s11.trans s12)
    have hle := sz_takeF (l := allFn P) k
    refine g_addL (s912 _ _ el) el2 (by rw [nInts_len, nInts_len, sizesL_len, List.length_replicate]; show _ ≤ 16777216; omega) fun l3 H13 nl3 el3 s13 => ?_
    walk_at "gg"
    have s913 := s912.trans s13
    refine ⟨_, _, _, l3, rfl, ?_, s4.free (s48.free (s9.free (s912.free nl3))), s913 _ _ er9, s9.trans s913⟩
    rw [List.take_add_one, hfn, sizesL_app, nInts_app]
    show H13 l3 = some (.lst (_ ++ nInts (List.replicate fn.body.size fn.things.length ++ [])))
    rw [List.append_nil]
    exact el3
  rintro σ H9 ⟨x5, x6, x7, sl, rfl, esl, fsl, er9, s9⟩
  rw [hrl, List.take_length] at esl
  have s39 := s4.trans (s48.trans s9)
  have s29 := s3.trans s39
  have c09 : Chg pen H H9 := (Chg.same s1).trans (c2.trans (Chg.same s29))
  obtain ⟨pns, pp_, pr_, ehp, ehL, _⟩ := id hP2
  have np2 : H2 pen ≠ none := by rw [ehp]; exact fun z => by cases z
  have base : Base17 H9 pen Lp gl sl (.ref pa) (fun b => H2 b = none ∧ H3 b ≠ none) P := by
    refine ⟨hP2.same s29, ⟨g, dd, us, s39 _ _ egl, s39 _ _ eg, hg.there.same s39, hdr.mono (fun o e => s39 _ _ e) (Same.tk s39), ⟨ngl, by rw [egl]; exact fun z => by cases z⟩, ⟨ng, by rw [eg]; exact fun z => by cases z⟩, ⟨ndd, ?_⟩⟩, esl, tP.mono (Same.tk s29), fun b hb => there_but (NBut.same (M := []) s39) (by simp) hb.2, fun z => np2 z.1, fun z => np2 (s3.free (z ▸ fsl))⟩
    obtain ⟨kvs, e, _⟩ := hdr
    rw [e]
    exact fun z => by cases z
  walk_at "gg"
  refine g_lenL (SqL.toN hS np c09) ?_
  rw [List.length_map]
  walk_at "gg"
  refine g_isrng (by omega) (by omega) ?_
  generalize hn : (max (3 : Int) (min 20 (ns.length : Nat))).toNat = n
  have htot2 := sizes_total hF
  have hpos := bodies_pos (P := P)
  generalize (fun b => H2 b = none ∧ H3 b ≠ none) = O0 at base
  clear c09 s29 s39 s3 s4 s48 s9 s28 c2 s1 hn hS er er9 ef ef8 esl epa epa3 efa tr tfs tas hg hdr egl eg hP1 hP2 tP
  refine for_any n (fun i σ H' => Pv17 a pen Lp gl sl (.ref pa) O0 P σ H')
    ⟨_, _, _, _, _, _, _, _, _, _, _, _, _, _, _, _, _, _, rfl, base⟩ (fun i σ H' hi _ => hi) (fun σ H' _ => Nat.le_refl _) ?_ ?_
  · rintro i x σ _ H4 hi ⟨x5, x6, x7, x8, x9, x10, x11, x12, x13, x14, x15, x16, x17, x18, x19, x20, x21, x22, rfl, hb⟩ ⟨rfl, rfl⟩
    refine g_name rfl ?_
    walk_at "gg"
    rename_i x dx H5 nx ex s5
    refine ⟨x, dx, .ref pa, P, rfl, ex, hb.tp.mono (Same.tk s5), hF, fun A O1 H6 hx hv hN hnew c6 => ⟨rfl, ?_⟩⟩
    subst hx
    have fx4 : H4 A.x = none := nx
    walk_at "gg"
    rename_i lk H7 nlk elk s7 dn H8 ndn edn s8 t H9 nt et s9
    have S0 := mk17 hb s5 fx4 hN hnew c6 nlk elk s7 ndn edn s8 nt et s9
    clear hb s5 fx4 hN hnew c6 nlk elk s7 ndn edn s8 nt et s9 ex nx
    refine ⟨_, _, rfl, ?_⟩
    obtain ⟨g0, dd0, us0, eg1, eg2, hgd, ⟨kvs, ed, hkl, hkd⟩, _, _, _⟩ := S0.gr.ex
    obtain ⟨dt, hd1, hd2⟩ := hkd "" (by unfold allN; simp)
    obtain ⟨pa2, fa2, u2, vs2, e2, epa2, efa2, tfs2, tas2⟩ := id S0.tp.prog
    cases e2
    walk_at "gg"
    refine g_ixD ed (k := .inr "") rfl hd1 ?_
    walk_at "gg"
    obtain ⟨_, hga, hza, hda⟩ := allFn_fine hF ⟨"", [], P.asked⟩ (by unfold allFn; simp)
    have hps := P.asked.size_pos
    refine ⟨u2, P.asked, rfl, tas2, hga, hza, hda, fun H10 s10 => ?_⟩
    have hza' : P.asked.size ≤ 60 := hza
    walk_at "gg"
    refine g_draw (S0.same s10).pn (by omega) (by omega) fun y H11 y0 y1 hP11 c11 => ?_
    have S1 := (S0.same s10).chg hP11 c11
    clear S0 eg1 eg2 hgd ed hkl hkd hd1 hd2 epa2 efa2 tfs2 tas2
    obtain ⟨m, hm⟩ : ∃ m : Nat, 1 + y = (m : Nat) := ⟨(1 + y).toNat, by omega⟩
    have hm1 : 0 < m ∧ m ≤ 60 := by omega
    walk_at "gg"
    rw [hm]
    refine g_isrng (by omega) (by omega) ?_
    rw [Int.toNat_natCast]
    generalize hf : (P.door "").1 = f0
    refine for_any m (fun j σ H' => ∃ x13, σ = [some (.ref a), some (.ref pen), some (.ref pa), some (.ref gl), some (.ref sl), x5, x6, x7, some (.int (0 + (i : Nat))), some (.ref A.x), some (.ref t), some (.int (f0 : Nat)), some (.int (m : Nat)), x13, x14, x15, x16, x17, x18, x19, x20, x21, x22] ∧ St17 K w H' pen Lp gl sl (.ref pa) O0 O1 A ⟨t, lk, dn⟩ P (rowsF f0 j) (rowsF f0 j))
      ⟨_, rfl, S1⟩ (fun i σ H' hi _ => hi) (fun σ H' _ => Nat.le_refl _) ?_ ?_
    · rintro j x σ _ H12 hj ⟨x13, rfl, S2⟩ ⟨rfl, rfl⟩
      refine g_name rfl ?_
      have ob2 := S2.nd.ob
      have hjl := rowsF_len f0 j
      walk_at "gg"
      rename_i t13 H13 n13 e13 s13
      have S3 := S2.same s13
      have hjn := rowsF_node f0 j
      have he : (f0 : Int) + (0 + (j : Nat)) = ((f0 + j : Nat) : Int) := by omega
      rw [he]
      refine ⟨O1, A, P, rowsF f0 j, false, ((f0 + j : Nat) : Int), [], t13, rfl, S3.nd, e13, by omega, fun H14 nd14 b14 k14 => ?_⟩
      rw [hjn] at nd14 ⊢
      have S4 := S3.growA (RA' := rowsF f0 (j + 1)) nd14 b14 k14
      walk_at "gg"
      rename_i t15 H15 n15 e15 s15
      rw [he]
      refine ⟨⟨t, lk, dn⟩, rowsF f0 j, false, ((f0 + j : Nat) : Int), [], t15, rfl, (S4.same s15).lt, e15, by omega, fun H16 lt16 b16 k16 => ?_⟩
      rw [hjn] at lt16 ⊢
      have S5 := (S4.same s15).growB (RB' := rowsF f0 (j + 1)) lt16 b16 k16
      walk_at "gg"
      refine g_F (by simp) (g_next ?_)
      exact ⟨_, rfl, S5⟩
    · rintro σ H12 ⟨x13, rfl, S2⟩
      walk_at "gg"
      refine g_lenL (.of S2.szs) ?_
      rw [nInts_len]
      walk_at "gg"
      refine g_draw S2.pn (by omega) (by omega) fun y2 H13 y20 y21 hP13 c13 => ?_
      have S3 := S2.chg hP13 c13
      obtain ⟨p, rfl⟩ : ∃ p : Nat, y2 = (p : Nat) := ⟨y2.toNat, by omega⟩
      have hp : p < (sizesL (allFn P)).length := by omega
      have hsz := nInts_at (List.getElem?_eq_getElem hp)
      have h4 := sizesL_le (fun f hf => (allFn_fine hF f hf).1) _ (List.getElem_mem hp)
      walk_at "gg"
      refine g_ixL (.of S3.szs) (atI_nat hsz) ?_
      walk_at "gg"
      refine g_isrng (by omega) (by omega) ?_
      rw [Int.toNat_natCast]
      refine lc_rngP (by omega) S3.pn (fun x => 0 ≤ x ∧ x < m) ?_ ?_
      · intro i H' Nx hi hP' c' hN
        refine g_name rfl ⟨rfl, ?_⟩
        walk_at "gg"
        refine g_draw hP' (by omega) (by omega) fun z H3 hz0 hz1 hP3 c3 => ?_
        exact hN z H3 hP3 c3 ⟨hz0, hz1⟩
      · intro Dl ts H14 nD eD hyl hts hP14 c14
        have S4 := S3.chg hP14 c14
        have hszt : (sizesL (allFn P))[p]? = some ts.length := by rw [hyl]; exact List.getElem?_eq_getElem hp
        have ob4 := S4.nd.ob
        walk_at "gg"
        rename_i t15 H15 n15 e15 s15
        have S5 := S4.same s15
        have hlR := rowsF_len f0 m
        obtain ⟨nn, hnn, _⟩ := nodeN_at (rowsF f0 m) (((p : Nat) : Int), ts)
        have hR := r17_of hF hm1 hts hszt (by omega) hnn
        obtain ⟨R, hNR⟩ : ∃ R, nodeN (rowsF f0 m) false (((p : Nat) : Int), ts) = (((nn : Nat) : Int), R) := ⟨_, Prod.ext hnn rfl⟩
        rw [hNR] at hR
        refine ⟨O1, A, P, rowsF f0 m, false, ((p : Nat) : Int), ts, t15, rfl, S5.nd, e15, by omega, fun H16 nd16 b16 k16 => ?_⟩
        rw [hNR] at nd16 ⊢
        have S6 := S5.growA (RA' := R) nd16 b16 k16
        walk_at "gg"
        refine ⟨⟨t, lk, dn⟩, rowsF f0 m, false, ((p : Nat) : Int), ts, t15, rfl, S6.lt, k16 _ _ e15, by omega, fun H17 lt17 b17 k17 => ?_⟩
        rw [hNR] at lt17 ⊢
        have S7 := S6.growB (RB' := R) lt17 b17 k17
        have e17 := k17 _ _ (k16 _ _ e15)
        clear S1 S2 S3 S4 S5 S6 nd16 lt17 b16 b17 e15
        walk_at "gg"
        rename_i l H18 n18 e18 s18
        have fl := S7.fresh n18
        have S8 := S7.same s18
        refine g_isrng (by decide) (by decide) ?_
        refine for_any 4 (fun k σ H' => ∃ (x20 x21 x22 : Option V) (RA RB : List NRow) (us : List V) (ws : List Wo), σ = [some (.ref a), some (.ref pen), some (.ref pa), some (.ref gl), some (.ref sl), x5, x6, x7, some (.int (0 + (i : Nat))), some (.ref A.x), some (.ref t), some (.int (f0 : Nat)), some (.int (m : Nat)), x13, some (.int (p : Nat)), some (.ref t15), x16, some (.int (nn : Nat)), some (.int (nn : Nat)), some (.ref l), x20, x21, x22] ∧ St17 K w H' pen Lp gl sl (.ref pa) O0 O1 A ⟨t, lk, dn⟩ P RA RB ∧ In17 H' P R RA RB m p k ts t15 l us ws)
          ⟨_, _, _, R, R, [], [], rfl, S8, ⟨.refl R, .refl R, Nat.le_refl _, Nat.le_refl _, e18, .nil, Nat.le_refl _, (fun w0 h => by cases h), (fun w0 h => by cases h), (fun _ _ _ _ _ _ _ => trivial), s18 _ _ e17⟩⟩ (fun i σ H' hi _ => hi) (fun σ H' _ => Nat.le_refl _) ?_ ?_
        · rintro k x σ _ H19 hk ⟨x20, x21, x22, RA, RB, us, ws, rfl, S9, hI⟩ ⟨rfl, rfl⟩
          refine g_name rfl ?_
          exact t17r_ok hR S9 hI fl hk (fun RA' RB' y21 y22 H' S => ⟨_, _, _, _, _, _, _, _, _, _, _, _, _, _, _, _, _, _, rfl, S.base⟩)
            (fun RA' RB' us' ws' y21 y22 H' S hI' => ⟨_, _, _, RA', RB', us', ws', rfl, S, hI'⟩)
        · rintro σ H19 ⟨x20, x21, x22, RA, RB, us, ws, rfl, S9, hI⟩
          exact ⟨_, _, _, _, _, _, _, _, _, _, _, _, _, _, _, _, _, _, rfl, S9.base⟩
  · rintro σ H4 ⟨x5, x6, x7, x8, x9, x10, x11, x12, x13, x14, x15, x16, x17, x18, x19, x20, x21, x22, rfl, hb⟩
    walk_at "gg"
    exact q H4

/-! ### the row -/
structure TX (w : World) (K : PySem.W.Frag) (mg : Str → Option Value) : Prop where
  c_Nodes : Cls K (He.ga K "Nodes")
  g_Nodes : mg "Nodes" = some (.ref (He.ga K "Nodes"))
  a_Nodes_program : NoAttr K (He.ga K "Nodes") "program"
  a_Nodes_ground : NoAttr K (He.ga K "Nodes") "ground"
  a_Nodes_kept : NoAttr K (He.ga K "Nodes") "kept"
  a_Nodes_numbers : NoAttr K (He.ga K "Nodes") "numbers"
  a_Nodes_closed : NoAttr K (He.ga K "Nodes") "closed"
  a_Nodes_doors : NoAttr K (He.ga K "Nodes") "doors"
  d_is_small : ∃ fd, FunD K "is_small" "is_small" (defArgs (topS 3)) (defBody (topS 3)) (defScope (topS 3)) [] [] (He.ga K "is_small") fd
  f_is_small : mg "is_small" = some (.ref (He.ga K "is_small"))
  d_within : ∃ fd, FunD K "within" "within" (defArgs (topS 4)) (defBody (topS 4)) (defScope (topS 4)) [] [] (He.ga K "within") fd
  f_within : mg "within" = some (.ref (He.ga K "within"))
  d_in_order : ∃ fd, FunD K "in_order" "in_order" (defArgs (topS 5)) (defBody (topS 5)) (defScope (topS 5)) [] [] (He.ga K "in_order") fd
  f_in_order : mg "in_order" = some (.ref (He.ga K "in_order"))
  d_many_in : ∃ fd, FunD K "many_in" "many_in" (defArgs (topS 6)) (defBody (topS 6)) (defScope (topS 6)) [] [] (He.ga K "many_in") fd
  f_many_in : mg "many_in" = some (.ref (He.ga K "many_in"))
  d_bodies : ∃ fd, FunD K "bodies" "bodies" (defArgs (topS 8)) (defBody (topS 8)) (defScope (topS 8)) [] [] (He.ga K "bodies") fd
  f_bodies : mg "bodies" = some (.ref (He.ga K "bodies"))
  d_number_of : ∃ fd, FunD K "number_of" "number_of" (defArgs (topS 9)) (defBody (topS 9)) (defScope (topS 9)) [] [] (He.ga K "number_of") fd
  f_number_of : mg "number_of" = some (.ref (He.ga K "number_of"))
  d_things_of : ∃ fd, FunD K "things_of" "things_of" (defArgs (topS 10)) (defBody (topS 10)) (defScope (topS 10)) [] [] (He.ga K "things_of") fd
  f_things_of : mg "things_of" = some (.ref (He.ga K "things_of"))
  d_wants : ∃ fd, FunD K "wants" "wants" (defArgs (topS 11)) (defBody (topS 11)) (defScope (topS 11)) [] [] (He.ga K "wants") fd
  f_wants : mg "wants" = some (.ref (He.ga K "wants"))
  d_body_place : ∃ fd, FunD K "body_place" "body_place" (defArgs (topS 12)) (defBody (topS 12)) (defScope (topS 12)) [] [] (He.ga K "body_place") fd
  f_body_place : mg "body_place" = some (.ref (He.ga K "body_place"))
  d_reckoned : ∃ fd, FunD K "reckoned" "reckoned" (defArgs (topS 14)) (defBody (topS 14)) (defScope (topS 14)) [] [] (He.ga K "reckoned") fd
  f_reckoned : mg "reckoned" = some (.ref (He.ga K "reckoned"))
  d_passed : ∃ fd, FunD K "passed" "passed" (defArgs (topS 16)) (defBody (topS 16)) (defScope (topS 16)) [] [] (He.ga K "passed") fd
  f_passed : mg "passed" = some (.ref (He.ga K "passed"))
  d_called : ∃ fd, FunD K "called" "called" (defArgs (topS 17)) (defBody (topS 17)) (defScope (topS 17)) [] [] (He.ga K "called") fd
  f_called : mg "called" = some (.ref (He.ga K "called"))
  d_of_fun : ∃ fd, FunD K "of_fun" "of_fun" (defArgs (topS 18)) (defBody (topS 18)) (defScope (topS 18)) [] [] (He.ga K "of_fun") fd
  f_of_fun : mg "of_fun" = some (.ref (He.ga K "of_fun"))
  d_of_give : ∃ fd, FunD K "of_give" "of_give" (defArgs (topS 19)) (defBody (topS 19)) (defScope (topS 19)) [] [] (He.ga K "of_give") fd
  f_of_give : mg "of_give" = some (.ref (He.ga K "of_give"))
  d_of_numbers : ∃ fd, FunD K "of_numbers" "of_numbers" (defArgs (topS 20)) (defBody (topS 20)) (defScope (topS 20)) [] [] (He.ga K "of_numbers") fd
  f_of_numbers : mg "of_numbers" = some (.ref (He.ga K "of_numbers"))
  d_of_when : ∃ fd, FunD K "of_when" "of_when" (defArgs (topS 21)) (defBody (topS 21)) (defScope (topS 21)) [] [] (He.ga K "of_when") fd
  f_of_when : mg "of_when" = some (.ref (He.ga K "of_when"))
  d_of_side : ∃ fd, FunD K "of_side" "of_side" (defArgs (topS 22)) (defBody (topS 22)) (defScope (topS 22)) [] [] (He.ga K "of_side") fd
  f_of_side : mg "of_side" = some (.ref (He.ga K "of_side"))
  d_behind : ∃ fd, FunD K "behind" "behind" (defArgs (topS 23)) (defBody (topS 23)) (defScope (topS 23)) [] [] (He.ga K "behind") fd
  f_behind : mg "behind" = some (.ref (He.ga K "behind"))
  d_inner_places : ∃ fd, FunD K "inner_places" "inner_places" (defArgs (topS 25)) (defBody (topS 25)) (defScope (topS 25)) [] [] (He.ga K "inner_places") fd
  f_inner_places : mg "inner_places" = some (.ref (He.ga K "inner_places"))
  d_with_rows : ∃ fd, FunD K "with_rows" "with_rows" (defArgs (topS 26)) (defBody (topS 26)) (defScope (topS 26)) [] [] (He.ga K "with_rows") fd
  f_with_rows : mg "with_rows" = some (.ref (He.ga K "with_rows"))
  d_grounds : ∃ fd, FunD K "grounds" "grounds" (defArgs (topS 27)) (defBody (topS 27)) (defScope (topS 27)) [] [] (He.ga K "grounds") fd
  f_grounds : mg "grounds" = some (.ref (He.ga K "grounds"))
  d_ground_of : ∃ fd, FunD K "ground_of" "ground_of" (defArgs (topS 28)) (defBody (topS 28)) (defScope (topS 28)) [] [] (He.ga K "ground_of") fd
  f_ground_of : mg "ground_of" = some (.ref (He.ga K "ground_of"))
  d_Nodes___init__ : ∃ fd, FunD K "__init__" "Nodes.__init__" (defArgs (inClass (topS 29) 0)) (defBody (inClass (topS 29) 0)) (defScope (inClass (topS 29) 0)) [] [] (He.ma K (He.ga K "Nodes") "__init__") fd
  i_Nodes : Mk K (He.ga K "Nodes") (He.ma K (He.ga K "Nodes") "__init__")
  d_Nodes_part : ∃ fd, FunD K "part" "Nodes.part" (defArgs (inClass (topS 29) 1)) (defBody (inClass (topS 29) 1)) (defScope (inClass (topS 29) 1)) [] [] (He.ma K (He.ga K "Nodes") "part") fd
  m_Nodes_part : Meth K (He.ga K "Nodes") "part" (He.ma K (He.ga K "Nodes") "part")
  d_Nodes_inner : ∃ fd, FunD K "inner" "Nodes.inner" (defArgs (inClass (topS 29) 2)) (defBody (inClass (topS 29) 2)) (defScope (inClass (topS 29) 2)) [] [] (He.ma K (He.ga K "Nodes") "inner") fd
  m_Nodes_inner : Meth K (He.ga K "Nodes") "inner" (He.ma K (He.ga K "Nodes") "inner")
  d_Nodes_door : ∃ fd, FunD K "door" "Nodes.door" (defArgs (inClass (topS 29) 3)) (defBody (inClass (topS 29) 3)) (defScope (inClass (topS 29) 3)) [] [] (He.ma K (He.ga K "Nodes") "door") fd
  m_Nodes_door : Meth K (He.ga K "Nodes") "door" (He.ma K (He.ga K "Nodes") "door")
  d_Nodes_node : ∃ fd, FunD K "node" "Nodes.node" (defArgs (inClass (topS 29) 4)) (defBody (inClass (topS 29) 4)) (defScope (inClass (topS 29) 4)) [] [] (He.ma K (He.ga K "Nodes") "node") fd
  m_Nodes_node : Meth K (He.ga K "Nodes") "node" (He.ma K (He.ga K "Nodes") "node")
  d_Nodes_seen : ∃ fd, FunD K "seen" "Nodes.seen" (defArgs (inClass (topS 29) 6)) (defBody (inClass (topS 29) 6)) (defScope (inClass (topS 29) 6)) [] [] (He.ma K (He.ga K "Nodes") "seen") fd
  m_Nodes_seen : Meth K (He.ga K "Nodes") "seen" (He.ma K (He.ga K "Nodes") "seen")
  d_Nodes_told : ∃ fd, FunD K "told" "Nodes.told" (defArgs (inClass (topS 29) 7)) (defBody (inClass (topS 29) 7)) (defScope (inClass (topS 29) 7)) [] [] (He.ma K (He.ga K "Nodes") "told") fd
  m_Nodes_told : Meth K (He.ga K "Nodes") "told" (He.ma K (He.ga K "Nodes") "told")
  d_law_pen : ∃ fd, FunD K "_law_pen" "_law_pen" (defArgs (topS 31)) (defBody (topS 31)) (defScope (topS 31)) [] [] (He.ga K "_law_pen") fd
  f_law_pen : mg "_law_pen" = some (.ref (He.ga K "_law_pen"))
  d_law_draw : ∃ fd, FunD K "_law_draw" "_law_draw" (defArgs (topS 32)) (defBody (topS 32)) (defScope (topS 32)) [] [] (He.ga K "_law_draw") fd
  f_law_draw : mg "_law_draw" = some (.ref (He.ga K "_law_draw"))
  d_law_names : ∃ fd, FunD K "_law_names" "_law_names" (defArgs (topS 33)) (defBody (topS 33)) (defScope (topS 33)) [] [] (He.ga K "_law_names") fd
  f_law_names : mg "_law_names" = some (.ref (He.ga K "_law_names"))
  d_law_number : ∃ fd, FunD K "_law_number" "_law_number" (defArgs (topS 34)) (defBody (topS 34)) (defScope (topS 34)) [] [] (He.ga K "_law_number") fd
  f_law_number : mg "_law_number" = some (.ref (He.ga K "_law_number"))
  d_law_leaf : ∃ fd, FunD K "_law_leaf" "_law_leaf" (defArgs (topS 35)) (defBody (topS 35)) (defScope (topS 35)) [] [] (He.ga K "_law_leaf") fd
  f_law_leaf : mg "_law_leaf" = some (.ref (He.ga K "_law_leaf"))
  d_law_fits : ∃ fd, FunD K "_law_fits" "_law_fits" (defArgs (topS 36)) (defBody (topS 36)) (defScope (topS 36)) [] [] (He.ga K "_law_fits") fd
  f_law_fits : mg "_law_fits" = some (.ref (He.ga K "_law_fits"))
  d_law_call : ∃ fd, FunD K "_law_call" "_law_call" (defArgs (topS 37)) (defBody (topS 37)) (defScope (topS 37)) [] [] (He.ga K "_law_call") fd
  f_law_call : mg "_law_call" = some (.ref (He.ga K "_law_call"))
  d_law_let : ∃ fd, FunD K "_law_let" "_law_let" (defArgs (topS 38)) (defBody (topS 38)) (defScope (topS 38)) [] [] (He.ga K "_law_let") fd
  f_law_let : mg "_law_let" = some (.ref (He.ga K "_law_let"))
  d_law_part : ∃ fd, FunD K "_law_part" "_law_part" (defArgs (topS 39)) (defBody (topS 39)) (defScope (topS 39)) [] [] (He.ga K "_law_part") fd
  f_law_part : mg "_law_part" = some (.ref (He.ga K "_law_part"))
  d_law_loop : ∃ fd, FunD K "_law_loop" "_law_loop" (defArgs (topS 40)) (defBody (topS 40)) (defScope (topS 40)) [] [] (He.ga K "_law_loop") fd
  f_law_loop : mg "_law_loop" = some (.ref (He.ga K "_law_loop"))
  d_law_body : ∃ fd, FunD K "_law_body" "_law_body" (defArgs (topS 41)) (defBody (topS 41)) (defScope (topS 41)) [] [] (He.ga K "_law_body") fd
  f_law_body : mg "_law_body" = some (.ref (He.ga K "_law_body"))
  d_law_program : ∃ fd, FunD K "_law_program" "_law_program" (defArgs (topS 42)) (defBody (topS 42)) (defScope (topS 42)) [] [] (He.ga K "_law_program") fd
  f_law_program : mg "_law_program" = some (.ref (He.ga K "_law_program"))
  d_law_ground : ∃ fd, FunD K "_law_ground" "_law_ground" (defArgs (topS 43)) (defBody (topS 43)) (defScope (topS 43)) [] [] (He.ga K "_law_ground") fd
  f_law_ground : mg "_law_ground" = some (.ref (He.ga K "_law_ground"))
  d_law_inner : ∃ fd, FunD K "_law_inner" "_law_inner" (defArgs (topS 44)) (defBody (topS 44)) (defScope (topS 44)) [] [] (He.ga K "_law_inner") fd
  f_law_inner : mg "_law_inner" = some (.ref (He.ga K "_law_inner"))
  d_law_many : ∃ fd, FunD K "_law_many" "_law_many" (defArgs (topS 45)) (defBody (topS 45)) (defScope (topS 45)) [] [] (He.ga K "_law_many") fd
  f_law_many : mg "_law_many" = some (.ref (He.ga K "_law_many"))
  d_law_grounds : ∃ fd, FunD K "_law_grounds" "_law_grounds" (defArgs (topS 46)) (defBody (topS 46)) (defScope (topS 46)) [] [] (He.ga K "_law_grounds") fd
  f_law_grounds : mg "_law_grounds" = some (.ref (He.ga K "_law_grounds"))
  d_law_node : ∃ fd, FunD K "_law_node" "_law_node" (defArgs (topS 47)) (defBody (topS 47)) (defScope (topS 47)) [] [] (He.ga K "_law_node") fd
  f_law_node : mg "_law_node" = some (.ref (He.ga K "_law_node"))
  d_law_seen : ∃ fd, FunD K "_law_seen" "_law_seen" (defArgs (topS 48)) (defBody (topS 48)) (defScope (topS 48)) [] [] (He.ga K "_law_seen") fd
  f_law_seen : mg "_law_seen" = some (.ref (He.ga K "_law_seen"))
  d_law_passed : ∃ fd, FunD K "_law_passed" "_law_passed" (defArgs (topS 49)) (defBody (topS 49)) (defScope (topS 49)) [] [] (He.ga K "_law_passed") fd
  f_law_passed : mg "_law_passed" = some (.ref (He.ga K "_law_passed"))
  d_law_two : ∃ fd, FunD K "_law_two" "_law_two" (defArgs (topS 50)) (defBody (topS 50)) (defScope (topS 50)) [] [] (He.ga K "_law_two") fd
  f_law_two : mg "_law_two" = some (.ref (He.ga K "_law_two"))
  d_law_given : ∃ fd, FunD K "_law_given" "_law_given" (defArgs (topS 51)) (defBody (topS 51)) (defScope (topS 51)) [] [] (He.ga K "_law_given") fd
  f_law_given : mg "_law_given" = some (.ref (He.ga K "_law_given"))
  d_law_behind : ∃ fd, FunD K "_law_behind" "_law_behind" (defArgs (topS 52)) (defBody (topS 52)) (defScope (topS 52)) [] [] (He.ga K "_law_behind") fd
  f_law_behind : mg "_law_behind" = some (.ref (He.ga K "_law_behind"))
  d_law_worth : ∃ fd, FunD K "_law_worth" "_law_worth" (defArgs (topS 53)) (defBody (topS 53)) (defScope (topS 53)) [] [] (He.ga K "_law_worth") fd
  f_law_worth : mg "_law_worth" = some (.ref (He.ga K "_law_worth"))
  d_law_wish : ∃ fd, FunD K "_law_wish" "_law_wish" (defArgs (topS 54)) (defBody (topS 54)) (defScope (topS 54)) [] [] (He.ga K "_law_wish") fd
  f_law_wish : mg "_law_wish" = some (.ref (He.ga K "_law_wish"))
  d_law_same : ∃ fd, FunD K "_law_same" "_law_same" (defArgs (topS 55)) (defBody (topS 55)) (defScope (topS 55)) [] [] (He.ga K "_law_same") fd
  f_law_same : mg "_law_same" = some (.ref (He.ga K "_law_same"))
  d_law : ∃ fd, FunD K "law" "law" (defArgs (topS 56)) (defBody (topS 56)) (defScope (topS 56)) [] [] (He.ga K "law") fd
  f_law : mg "law" = some (.ref (He.ga K "law"))
  n_abs : mg "abs" = none
  n_list : mg "list" = none
  n_len : mg "len" = none
  n_sum : mg "sum" = none
  n_int : mg "int" = none
  n_dict : mg "dict" = none
  n_zip : mg "zip" = none
  n_enumerate : mg "enumerate" = none
  n_tuple : mg "tuple" = none
  n_max : mg "max" = none
  n_range : mg "range" = none
  n_min : mg "min" = none
  n_isinstance : mg "isinstance" = none
  n_bool : mg "bool" = none
  g_PARTS : mg "PARTS" = some (.ref (He.ga K "PARTS"))
  k_PARTS : KTab K w (He.ga K "PARTS") [("give", V.int 2), ("plus", V.int 2), ("less", V.int 2), ("times", V.int 2), ("below", V.int 2), ("when", V.int 3), ("pair", V.int 2), ("left", V.int 1), ("right", V.int 1)]
  g_OPERATIONS : mg "OPERATIONS" = some (.ref (He.ga K "OPERATIONS"))
  t_OPERATIONS : ∀ H : Hp, SqT K H (He.ga K "OPERATIONS") [V.str "plus", V.str "less", V.str "times", V.str "below"]
abbrev st_is_small : Stmt := topS 3
theorem sc_is_small : FnScope ["number"] ["number"] (defScope st_is_small) := ⟨rfl, rfl, rfl, by decide +kernel, rfl, by decide +kernel, by decide +kernel⟩
theorem mk_is_small {P : Program} {w : World} {K : PySem.W.Frag} {mg : Str → Option Value} {base : Heap} (T : TX w K mg) {j : Nat} {sp : Sp}
    (pure_ : PureOk 1 sp (t_is_small K w ) 1) : Cal P w K mg base (j + 1) "is_small" sp := by
  obtain ⟨fd, F⟩ := T.d_is_small
  refine cal_mk F T.f_is_small sc_is_small (F.bindsN fun _ _ _ _ _ _ us hl => match us, hl with | [_], _ => rfl) pure_.len fun cdv A outer s H vs Q E hr h => ?_
  refine ⟨t_is_small K w , PSs.nox ?_, pure_.run vs H Q E h⟩
  exact (pss_one (ps_ret (pe_cmpR op_lt (pe_callB call_abs (by rfl) T.n_abs (by decide +kernel) (pa_cons (pv 0) pa_nil)) (pe_op op_pow pe_int pe_int) (nomark _))))
abbrev st_within : Stmt := topS 4
theorem sc_within : FnScope ["part", "name", "one"] ["part"] (defScope st_within) := ⟨rfl, rfl, rfl, by decide +kernel, rfl, by decide +kernel, by decide +kernel⟩
theorem mk_within {P : Program} {w : World} {K : PySem.W.Frag} {mg : Str → Option Value} {base : Heap} (T : TX w K mg) {j : Nat} {sp : Sp}
    (pure_ : PureOk 1 sp (t_within K w ) 3) : Cal P w K mg base (j + 1) "within" sp := by
  obtain ⟨fd, F⟩ := T.d_within
  refine cal_mk F T.f_within sc_within (F.bindsN fun _ _ _ _ _ _ us hl => match us, hl with | [_], _ => rfl) pure_.len fun cdv A outer s H vs Q E hr h => ?_
  refine ⟨t_within K w , PSs.nox ?_, pure_.run vs H Q E h⟩
  exact (pss_cons (ps_if (pt_cmpR (op_inG (hu_of hr)) (pe_ixG (hu_of hr) (pv 0) pe_int (fun _ _ => rfl)) (pe_glob (v := .ref (He.ga K "PARTS")) rfl T.g_PARTS rfl) (by rfl)) (pss_one (ps_ret (pe_callTy (call_listG rfl) (by rfl) T.n_list (by decide +kernel) (pa_cons (pe_slice sl_any (pv 0) (po_some pe_int) po_none) pa_nil)))) pss_nil)
  (pss_cons (ps_if (pt_cmpR (op_eqG (hu2_of hr)) (pe_ixG (hu_of hr) (pv 0) pe_int (fun _ _ => rfl)) pe_str (nomark _)) (pss_one (ps_ret (pe_op op_addG (pe_lc (own := [("name", 1), ("one", 2)]) (g := (gTup K 2 (gCons (gName 1) (gCons (gName 2) gNil)))) (tt := tYes) rfl sc_within.nd (pi_seq (pe_ixG (hu_of hr) (pv 0) pe_int (fun _ _ => rfl))) (blkOk_by (by kernel_rfl)) (fun _ _ _ _ _ => (pg_tup rfl (pgs_cons (pg_name (i := 1) sc_within.nd rfl (by first | exact Or.inl rfl | exact Or.inr rfl)) (pgs_cons (pg_name (i := 2) sc_within.nd rfl (by first | exact Or.inl rfl | exact Or.inr rfl)) pgs_nil)))) (fun _ _ _ _ _ => pts_nil) (fun _ _ _ _ _ => (pv 2))) (pe_lstN (pa_cons (pe_ixG (hu_of hr) (pv 0) pe_int (fun _ _ => rfl)) pa_nil))))) pss_nil)
  (pss_one (ps_ret (pe_lstN pa_nil)))))
abbrev st_in_order : Stmt := topS 5
theorem sc_in_order : FnScope ["part", "found", "pile", "one"] ["part"] (defScope st_in_order) := ⟨rfl, rfl, rfl, by decide +kernel, rfl, by decide +kernel, by decide +kernel⟩
theorem mk_in_order {P : Program} {w : World} {K : PySem.W.Frag} {mg : Str → Option Value} {base : Heap} (T : TX w K mg) {j : Nat} {sp : Sp} {s_within : Sp} (c_within : Cal P w K mg base j "within" s_within)
    (pure_ : PureOk 1 sp (t_in_order K w s_within) 4) : Cal P w K mg base (j + 1) "in_order" sp := by
  obtain ⟨fd, F⟩ := T.d_in_order
  refine cal_mk F T.f_in_order sc_in_order (F.bindsN fun _ _ _ _ _ _ us hl => match us, hl with | [_], _ => rfl) pure_.len fun cdv A outer s H vs Q E hr h => ?_
  refine ⟨t_in_order K w s_within, PSs.nox ?_, pure_.run vs H Q E h⟩
  exact (pss_cons (ps_set (i := 1) sc_in_order.nd rfl (Or.inl rfl) (pe_lstN pa_nil))
  (pss_cons (ps_set (i := 2) sc_in_order.nd rfl (Or.inl rfl) (pe_lstN (pa_cons (pv 0) pa_nil)))
  (pss_cons (ps_while PassesOwn.never (pt_cmpR (op_neG (hu2_of hr)) (pv 2) (pe_lstN pa_nil) (nomark _)) (pss_cons (ps_set (i := 3) sc_in_order.nd rfl (Or.inl rfl) (pe_bm0 PySem.F.plainAttrs_list PySem.F.slot_list_pop PySem.F.type_list_pop mt_popG (pv 2)))
  (pss_cons (ps_expr (pe_bm PySem.F.plainAttrs_list PySem.F.slot_list_append PySem.F.type_list_append mt_appendG (pv 1) (pa_cons (pv 3) pa_nil)))
  (pss_one (ps_expr (pe_bm PySem.F.plainAttrs_list PySem.F.slot_list_extend PySem.F.type_list_extend mt_extendG (pv 2) (pa_cons (pe_revG (pe_cal c_within hr rfl (pa_cons (pv 3) pa_nil))) pa_nil)))))))
  (pss_one (ps_ret (pv 1))))))
abbrev st_many_in : Stmt := topS 6
theorem sc_many_in : FnScope ["part"] ["part"] (defScope st_many_in) := ⟨rfl, rfl, rfl, by decide +kernel, rfl, by decide +kernel, by decide +kernel⟩
theorem mk_many_in {P : Program} {w : World} {K : PySem.W.Frag} {mg : Str → Option Value} {base : Heap} (T : TX w K mg) {j : Nat} {sp : Sp} {s_in_order : Sp} (c_in_order : Cal P w K mg base j "in_order" s_in_order)
    (pure_ : PureOk 1 sp (t_many_in K w s_in_order) 1) : Cal P w K mg base (j + 1) "many_in" sp := by
  obtain ⟨fd, F⟩ := T.d_many_in
  refine cal_mk F T.f_many_in sc_many_in (F.bindsN fun _ _ _ _ _ _ us hl => match us, hl with | [_], _ => rfl) pure_.len fun cdv A outer s H vs Q E hr h => ?_
  refine ⟨t_many_in K w s_in_order, PSs.nox ?_, pure_.run vs H Q E h⟩
  exact (pss_one (ps_ret (pe_callB call_lenG (by rfl) T.n_len (by decide +kernel) (pa_cons (pe_cal c_in_order hr rfl (pa_cons (pv 0) pa_nil)) pa_nil))))
abbrev st_bodies : Stmt := topS 8
theorem sc_bodies : FnScope ["program", "name", "names", "body"] ["program"] (defScope st_bodies) := ⟨rfl, rfl, rfl, by decide +kernel, rfl, by decide +kernel, by decide +kernel⟩
theorem mk_bodies {P : Program} {w : World} {K : PySem.W.Frag} {mg : Str → Option Value} {base : Heap} (T : TX w K mg) {j : Nat} {sp : Sp}
    (pure_ : PureOk 1 sp (t_bodies K w ) 4) : Cal P w K mg base (j + 1) "bodies" sp := by
  obtain ⟨fd, F⟩ := T.d_bodies
  refine cal_mk F T.f_bodies sc_bodies (F.bindsN fun _ _ _ _ _ _ us hl => match us, hl with | [_], _ => rfl) pure_.len fun cdv A outer s H vs Q E hr h => ?_
  refine ⟨t_bodies K w , PSs.nox ?_, pure_.run vs H Q E h⟩
  exact (pss_one (ps_ret (pe_op op_addG (pe_lc (own := [("name", 1), ("names", 2), ("body", 3)]) (g := (gTup K 3 (gCons (gName 1) (gCons (gName 2) (gCons (gName 3) gNil))))) (tt := tYes) rfl sc_bodies.nd (pi_seq (pe_ixG (hu_of hr) (pv 0) pe_int (fun _ _ => rfl))) (blkOk_by (by kernel_rfl)) (fun _ _ _ _ _ => (pg_tup rfl (pgs_cons (pg_name (i := 1) sc_bodies.nd rfl (by first | exact Or.inl rfl | exact Or.inr rfl)) (pgs_cons (pg_name (i := 2) sc_bodies.nd rfl (by first | exact Or.inl rfl | exact Or.inr rfl)) (pgs_cons (pg_name (i := 3) sc_bodies.nd rfl (by first | exact Or.inl rfl | exact Or.inr rfl)) pgs_nil))))) (fun _ _ _ _ _ => pts_nil) (fun _ _ _ _ _ => (pv 3))) (pe_lstN (pa_cons (pe_ixG (hu_of hr) (pv 0) pe_int (fun _ _ => rfl)) pa_nil)))))
abbrev st_number_of : Stmt := topS 9
theorem sc_number_of : FnScope ["program", "f", "names", "name", "things", "body"] ["program", "f"] (defScope st_number_of) := ⟨rfl, rfl, rfl, by decide +kernel, rfl, by decide +kernel, by decide +kernel⟩
theorem mk_number_of {P : Program} {w : World} {K : PySem.W.Frag} {mg : Str → Option Value} {base : Heap} (T : TX w K mg) {j : Nat} {sp : Sp}
    (pure_ : PureOk 2 sp (t_number_of K w ) 6) : Cal P w K mg base (j + 1) "number_of" sp := by
  obtain ⟨fd, F⟩ := T.d_number_of
  refine cal_mk F T.f_number_of sc_number_of (F.bindsN fun _ _ _ _ _ _ us hl => match us, hl with | [_, _], _ => rfl) pure_.len fun cdv A outer s H vs Q E hr h => ?_
  refine ⟨t_number_of K w , PSs.nox ?_, pure_.run vs H Q E h⟩
  exact (pss_cons (ps_setLc (i := 2) (own := [("name", 3), ("things", 4), ("body", 5)]) (g := (gTup K 3 (gCons (gName 3) (gCons (gName 4) (gCons (gName 5) gNil))))) (tt := tYes) rfl sc_number_of.nd rfl rfl (sw_true rfl rfl rfl (by decide +kernel)) (pi_seq (pe_ixG (hu_of hr) (pv 0) pe_int (fun _ _ => rfl))) (blkOk_by (by kernel_rfl)) (fun _ _ _ _ _ => (pg_tup rfl (pgs_cons (pg_name (i := 3) sc_number_of.nd rfl (by first | exact Or.inl rfl | exact Or.inr rfl)) (pgs_cons (pg_name (i := 4) sc_number_of.nd rfl (by first | exact Or.inl rfl | exact Or.inr rfl)) (pgs_cons (pg_name (i := 5) sc_number_of.nd rfl (by first | exact Or.inl rfl | exact Or.inr rfl)) pgs_nil))))) (fun _ _ _ _ _ => pts_nil) (fun _ _ _ _ _ => (pv 3)))
  (pss_one (ps_ret (pe_ifExp (pt_cmpR (op_inG (hu_of hr)) (pv 1) (pv 2) (by rfl)) (pe_bm PySem.F.plainAttrs_list PySem.F.slot_list_index PySem.F.type_list_index mt_index (pv 2) (pa_cons (pv 1) pa_nil)) (pe_callB call_lenG (by rfl) T.n_len (by decide +kernel) (pa_cons (pv 2) pa_nil))))))
abbrev st_things_of : Stmt := topS 10
theorem sc_things_of : FnScope ["program", "f", "number"] ["program", "f"] (defScope st_things_of) := ⟨rfl, rfl, rfl, by decide +kernel, rfl, by decide +kernel, by decide +kernel⟩
theorem mk_things_of {P : Program} {w : World} {K : PySem.W.Frag} {mg : Str → Option Value} {base : Heap} (T : TX w K mg) {j : Nat} {sp : Sp} {s_number_of : Sp} (c_number_of : Cal P w K mg base j "number_of" s_number_of)
    (pure_ : PureOk 2 sp (t_things_of K w s_number_of) 3) : Cal P w K mg base (j + 1) "things_of" sp := by
  obtain ⟨fd, F⟩ := T.d_things_of
  refine cal_mk F T.f_things_of sc_things_of (F.bindsN fun _ _ _ _ _ _ us hl => match us, hl with | [_, _], _ => rfl) pure_.len fun cdv A outer s H vs Q E hr h => ?_
  refine ⟨t_things_of K w s_number_of, PSs.nox ?_, pure_.run vs H Q E h⟩
  exact (pss_cons (ps_set (i := 2) sc_things_of.nd rfl (Or.inl rfl) (pe_cal c_number_of hr rfl (pa_cons (pv 0) (pa_cons (pv 1) pa_nil))))
  (pss_one (ps_ret (pe_ifExp (pt_cmpR (op_eqG (hu2_of hr)) (pv 2) (pe_callB call_lenG (by rfl) T.n_len (by decide +kernel) (pa_cons (pe_ixG (hu_of hr) (pv 0) pe_int (fun _ _ => rfl)) pa_nil)) (nomark _)) (pe_tupN pa_nil) (pe_ixG (hu_of hr) (pe_ixG (hu_of hr) (pe_ixG (hu_of hr) (pv 0) pe_int (fun _ _ => rfl)) (pv 2) (fun _ _ => rfl)) pe_int (fun _ _ => rfl))))))
abbrev st_wants : Stmt := topS 11
theorem sc_wants : FnScope ["program", "f"] ["program", "f"] (defScope st_wants) := ⟨rfl, rfl, rfl, by decide +kernel, rfl, by decide +kernel, by decide +kernel⟩
theorem mk_wants {P : Program} {w : World} {K : PySem.W.Frag} {mg : Str → Option Value} {base : Heap} (T : TX w K mg) {j : Nat} {sp : Sp} {s_things_of : Sp} (c_things_of : Cal P w K mg base j "things_of" s_things_of)
    (pure_ : PureOk 2 sp (t_wants K w s_things_of) 2) : Cal P w K mg base (j + 1) "wants" sp := by
  obtain ⟨fd, F⟩ := T.d_wants
  refine cal_mk F T.f_wants sc_wants (F.bindsN fun _ _ _ _ _ _ us hl => match us, hl with | [_, _], _ => rfl) pure_.len fun cdv A outer s H vs Q E hr h => ?_
  refine ⟨t_wants K w s_things_of, PSs.nox ?_, pure_.run vs H Q E h⟩
  exact (pss_one (ps_ret (pe_callB call_lenG (by rfl) T.n_len (by decide +kernel) (pa_cons (pe_cal c_things_of hr rfl (pa_cons (pv 0) (pa_cons (pv 1) pa_nil))) pa_nil))))
abbrev st_body_place : Stmt := topS 12
theorem sc_body_place : FnScope ["program", "f", "body"] ["program", "f"] (defScope st_body_place) := ⟨rfl, rfl, rfl, by decide +kernel, rfl, by decide +kernel, by decide +kernel⟩
theorem mk_body_place {P : Program} {w : World} {K : PySem.W.Frag} {mg : Str → Option Value} {base : Heap} (T : TX w K mg) {j : Nat} {sp : Sp} {s_bodies s_number_of s_many_in : Sp} (c_bodies : Cal P w K mg base j "bodies" s_bodies) (c_number_of : Cal P w K mg base j "number_of" s_number_of) (c_many_in : Cal P w K mg base j "many_in" s_many_in)
    (pure_ : PureOk 2 sp (t_body_place K w s_bodies s_number_of s_many_in) 3) : Cal P w K mg base (j + 1) "body_place" sp := by
  obtain ⟨fd, F⟩ := T.d_body_place
  refine cal_mk F T.f_body_place sc_body_place (F.bindsN fun _ _ _ _ _ _ us hl => match us, hl with | [_, _], _ => rfl) pure_.len fun cdv A outer s H vs Q E hr h => ?_
  refine ⟨t_body_place K w s_bodies s_number_of s_many_in, PSs.nox ?_, pure_.run vs H Q E h⟩
  exact (pss_one (ps_ret (pe_callB (cr_sum rfl) (by rfl) T.n_sum (by decide +kernel) (pa_cons (pe_lc (own := [("body", 2)]) (g := (gName 2)) (tt := tYes) rfl sc_body_place.nd (pi_seq (pe_slice sl_any (pe_cal c_bodies hr rfl (pa_cons (pv 0) pa_nil)) po_none (po_some (pe_cal c_number_of hr rfl (pa_cons (pv 0) (pa_cons (pv 1) pa_nil)))))) (blkOk_by (by kernel_rfl)) (fun _ _ _ _ _ => (pg_name (i := 2) sc_body_place.nd rfl (by first | exact Or.inl rfl | exact Or.inr rfl))) (fun _ _ _ _ _ => pts_nil) (fun _ _ _ _ _ => (pe_cal c_many_in hr rfl (pa_cons (pv 2) pa_nil)))) pa_nil))))
abbrev st_reckoned : Stmt := topS 14
theorem sc_reckoned : FnScope ["kind", "one", "other"] ["kind", "one", "other"] (defScope st_reckoned) := ⟨rfl, rfl, rfl, by decide +kernel, rfl, by decide +kernel, by decide +kernel⟩
theorem mk_reckoned {P : Program} {w : World} {K : PySem.W.Frag} {mg : Str → Option Value} {base : Heap} (T : TX w K mg) {j : Nat} {sp : Sp}
    (pure_ : PureOk 3 sp (t_reckoned K w ) 3) : Cal P w K mg base (j + 1) "reckoned" sp := by
  obtain ⟨fd, F⟩ := T.d_reckoned
  refine cal_mk F T.f_reckoned sc_reckoned (F.bindsN fun _ _ _ _ _ _ us hl => match us, hl with | [_, _, _], _ => rfl) pure_.len fun cdv A outer s H vs Q E hr h => ?_
  refine ⟨t_reckoned K w , PSs.nox ?_, pure_.run vs H Q E h⟩
  exact (pss_cons (ps_if (pt_cmpR (op_eqG (hu2_of hr)) (pv 0) pe_str (nomark _)) (pss_one (ps_ret (pe_op op_addG (pv 1) (pv 2)))) pss_nil)
  (pss_cons (ps_if (pt_cmpR (op_eqG (hu2_of hr)) (pv 0) pe_str (nomark _)) (pss_one (ps_ret (pe_op op_sub (pv 1) (pv 2)))) pss_nil)
  (pss_cons (ps_if (pt_cmpR (op_eqG (hu2_of hr)) (pv 0) pe_str (nomark _)) (pss_one (ps_ret (pe_op op_mulG (pv 1) (pv 2)))) pss_nil)
  (pss_one (ps_ret (pe_callTy call_int1 (by rfl) T.n_int (by decide +kernel) (pa_cons (pe_cmpR op_lt (pv 1) (pv 2) (nomark _)) pa_nil)))))))
abbrev st_passed : Stmt := topS 16
theorem sc_passed : FnScope ["number", "worths"] ["number", "worths"] (defScope st_passed) := ⟨rfl, rfl, rfl, by decide +kernel, rfl, by decide +kernel, by decide +kernel⟩
theorem mk_passed {P : Program} {w : World} {K : PySem.W.Frag} {mg : Str → Option Value} {base : Heap} (T : TX w K mg) {j : Nat} {sp : Sp}
    (pure_ : PureOk 2 sp (t_passed K w ) 2) : Cal P w K mg base (j + 1) "passed" sp := by
  obtain ⟨fd, F⟩ := T.d_passed
  refine cal_mk F T.f_passed sc_passed (F.bindsN fun _ _ _ _ _ _ us hl => match us, hl with | [_, _], _ => rfl) pure_.len fun cdv A outer s H vs Q E hr h => ?_
  refine ⟨t_passed K w , PSs.nox ?_, pure_.run vs H Q E h⟩
  exact (pss_cons (ps_if (pt_cmpR (op_eqG (hu2_of hr)) (pv 1) (pe_lstN pa_nil) (nomark _)) (pss_one (ps_ret (pe_tupN (pa_cons pe_str (pa_cons (pv 0) pa_nil))))) pss_nil)
  (pss_one (ps_ret (pe_tupN (pa_cons pe_str (pa_cons (pe_ixG (hu_of hr) (pv 1) pe_int (fun _ _ => rfl)) pa_nil))))))
abbrev st_called : Stmt := topS 17
theorem sc_called : FnScope ["nodes", "f", "things", "worths"] ["nodes", "f", "things", "worths"] (defScope st_called) := ⟨rfl, rfl, rfl, by decide +kernel, rfl, by decide +kernel, by decide +kernel⟩
theorem mk_called {P : Program} {w : World} {K : PySem.W.Frag} {mg : Str → Option Value} {base : Heap} (T : TX w K mg) {j : Nat} {sp : Sp} {s_Nodes_door s_Nodes_node : Sp} (c_Nodes_door : MCal P w K mg base j (He.ga K "Nodes") "door" s_Nodes_door) (c_Nodes_node : MCal P w K mg base j (He.ga K "Nodes") "node" s_Nodes_node)
    (pure_ : PureOk 4 sp (t_called K w s_Nodes_door s_Nodes_node) 4) : Cal P w K mg base (j + 1) "called" sp := by
  obtain ⟨fd, F⟩ := T.d_called
  refine cal_mk F T.f_called sc_called (F.bindsN fun _ _ _ _ _ _ us hl => match us, hl with | [_, _, _, _], _ => rfl) pure_.len fun cdv A outer s H vs Q E hr h => ?_
  refine ⟨t_called K w s_Nodes_door s_Nodes_node, PSs.nox ?_, pure_.run vs H Q E h⟩
  exact (pss_cons (ps_if (pt_cmpR (op_eqG (hu2_of hr)) (pv 3) (pe_lstN pa_nil) (nomark _)) (pss_one (ps_ret (pe_tupN (pa_cons pe_str (pa_cons (pe_mcal (pv 0) c_Nodes_node hr (pa_cons (pe_ixG (hu_of hr) (pe_mcal (pv 0) c_Nodes_door hr (pa_cons (pv 1) pa_nil)) pe_int (fun _ _ => rfl)) (pa_cons (pv 2) pa_nil))) pa_nil))))) pss_nil)
  (pss_one (ps_ret (pe_tupN (pa_cons pe_str (pa_cons (pe_ixG (hu_of hr) (pv 3) pe_int (fun _ _ => rfl)) pa_nil))))))
abbrev st_of_fun : Stmt := topS 18
theorem sc_of_fun : FnScope ["nodes", "f", "worths"] ["nodes", "f", "worths"] (defScope st_of_fun) := ⟨rfl, rfl, rfl, by decide +kernel, rfl, by decide +kernel, by decide +kernel⟩
theorem mk_of_fun {P : Program} {w : World} {K : PySem.W.Frag} {mg : Str → Option Value} {base : Heap} (T : TX w K mg) {j : Nat} {sp : Sp} {s_Nodes_door s_called : Sp} (c_Nodes_door : MCal P w K mg base j (He.ga K "Nodes") "door" s_Nodes_door) (c_called : Cal P w K mg base j "called" s_called)
    (pure_ : PureOk 3 sp (t_of_fun K w s_Nodes_door s_called) 3) : Cal P w K mg base (j + 1) "of_fun" sp := by
  obtain ⟨fd, F⟩ := T.d_of_fun
  refine cal_mk F T.f_of_fun sc_of_fun (F.bindsN fun _ _ _ _ _ _ us hl => match us, hl with | [_, _, _], _ => rfl) pure_.len fun cdv A outer s H vs Q E hr h => ?_
  refine ⟨t_of_fun K w s_Nodes_door s_called, PSs.nox ?_, pure_.run vs H Q E h⟩
  exact (pss_cons (ps_if (pt_cmpR op_gt (pe_ixG (hu_of hr) (pe_mcal (pv 0) c_Nodes_door hr (pa_cons (pv 1) pa_nil)) pe_int (fun _ _ => rfl)) pe_int (nomark _)) (pss_one (ps_ret (pe_tupN (pa_cons pe_str (pa_cons (pe_tupN (pa_cons pe_str (pa_cons (pv 1) (pa_cons (pe_tupN pa_nil) pa_nil)))) pa_nil))))) pss_nil)
  (pss_one (ps_ret (pe_cal c_called hr rfl (pa_cons (pv 0) (pa_cons (pv 1) (pa_cons (pe_tupN pa_nil) (pa_cons (pv 2) pa_nil))))))))
abbrev st_of_give : Stmt := topS 19
theorem sc_of_give : FnScope ["nodes", "inner", "things", "worths", "word", "f", "given"] ["nodes", "inner", "things", "worths"] (defScope st_of_give) := ⟨rfl, rfl, rfl, by decide +kernel, rfl, by decide +kernel, by decide +kernel⟩
theorem mk_of_give {P : Program} {w : World} {K : PySem.W.Frag} {mg : Str → Option Value} {base : Heap} (T : TX w K mg) {j : Nat} {sp : Sp} {s_Nodes_seen s_Nodes_door s_called : Sp} (c_Nodes_seen : MCal P w K mg base j (He.ga K "Nodes") "seen" s_Nodes_seen) (c_Nodes_door : MCal P w K mg base j (He.ga K "Nodes") "door" s_Nodes_door) (c_called : Cal P w K mg base j "called" s_called)
    (pure_ : PureOk 4 sp (t_of_give K w s_Nodes_seen s_Nodes_door s_called) 7) : Cal P w K mg base (j + 1) "of_give" sp := by
  obtain ⟨fd, F⟩ := T.d_of_give
  refine cal_mk F T.f_of_give sc_of_give (F.bindsN fun _ _ _ _ _ _ us hl => match us, hl with | [_, _, _, _], _ => rfl) pure_.len fun cdv A outer s H vs Q E hr h => ?_
  refine ⟨t_of_give K w s_Nodes_seen s_Nodes_door s_called, PSs.nox ?_, pure_.run vs H Q E h⟩
  exact (pss_cons (ps_if (pt_cmpR (op_eqG (hu2_of hr)) (pv 3) (pe_lstN pa_nil) (nomark _)) (pss_one (ps_ret (pe_tupN (pa_cons pe_str (pa_cons (pe_mcal (pv 0) c_Nodes_seen hr (pa_cons (pe_ixG (hu_of hr) (pv 1) pe_int (fun _ _ => rfl)) (pa_cons (pv 2) pa_nil))) pa_nil))))) pss_nil)
  (pss_cons (ps_if (pt_cmpR (op_neG (hu2_of hr)) (pe_ixG (hu_of hr) (pe_ixG (hu_of hr) (pv 3) pe_int (fun _ _ => rfl)) pe_int (fun _ _ => rfl)) pe_str (nomark _)) (pss_one (ps_ret (pe_tupN (pa_cons pe_str (pa_cons pe_str pa_nil))))) pss_nil)
  (pss_cons (ps_asg (pe_ixG (hu_of hr) (pv 3) pe_int (fun _ _ => rfl)) (pg_tup rfl (pgs_cons (pg_name (i := 4) sc_of_give.nd rfl (by first | exact Or.inl rfl | exact Or.inr rfl)) (pgs_cons (pg_name (i := 5) sc_of_give.nd rfl (by first | exact Or.inl rfl | exact Or.inr rfl)) (pgs_cons (pg_name (i := 6) sc_of_give.nd rfl (by first | exact Or.inl rfl | exact Or.inr rfl)) pgs_nil)))))
  (pss_cons (ps_set (i := 6) sc_of_give.nd rfl (Or.inl rfl) (pe_op op_addG (pv 6) (pe_tupN (pa_cons (pe_mcal (pv 0) c_Nodes_seen hr (pa_cons (pe_ixG (hu_of hr) (pv 1) pe_int (fun _ _ => rfl)) (pa_cons (pv 2) pa_nil))) pa_nil))))
  (pss_cons (ps_if (pt_cmpR op_lt (pe_callB call_lenG (by rfl) T.n_len (by decide +kernel) (pa_cons (pv 6) pa_nil)) (pe_ixG (hu_of hr) (pe_mcal (pv 0) c_Nodes_door hr (pa_cons (pv 5) pa_nil)) pe_int (fun _ _ => rfl)) (nomark _)) (pss_one (ps_ret (pe_tupN (pa_cons pe_str (pa_cons (pe_tupN (pa_cons pe_str (pa_cons (pv 5) (pa_cons (pv 6) pa_nil)))) pa_nil))))) pss_nil)
  (pss_one (ps_ret (pe_cal c_called hr rfl (pa_cons (pv 0) (pa_cons (pv 5) (pa_cons (pv 6) (pa_cons (pe_slice sl_any (pv 3) (po_some pe_int) po_none) pa_nil))))))))))))
abbrev st_of_numbers : Stmt := topS 20
theorem sc_of_numbers : FnScope ["kind", "nodes", "inner", "things", "worths", "number"] ["kind", "nodes", "inner", "things", "worths"] (defScope st_of_numbers) := ⟨rfl, rfl, rfl, by decide +kernel, rfl, by decide +kernel, by decide +kernel⟩
theorem mk_of_numbers {P : Program} {w : World} {K : PySem.W.Frag} {mg : Str → Option Value} {base : Heap} (T : TX w K mg) {j : Nat} {sp : Sp} {s_Nodes_seen s_reckoned s_is_small : Sp} (c_Nodes_seen : MCal P w K mg base j (He.ga K "Nodes") "seen" s_Nodes_seen) (c_reckoned : Cal P w K mg base j "reckoned" s_reckoned) (c_is_small : Cal P w K mg base j "is_small" s_is_small)
    (pure_ : PureOk 5 sp (t_of_numbers K w s_Nodes_seen s_reckoned s_is_small) 6) : Cal P w K mg base (j + 1) "of_numbers" sp := by
  obtain ⟨fd, F⟩ := T.d_of_numbers
  refine cal_mk F T.f_of_numbers sc_of_numbers (F.bindsN fun _ _ _ _ _ _ us hl => match us, hl with | [_, _, _, _, _], _ => rfl) pure_.len fun cdv A outer s H vs Q E hr h => ?_
  refine ⟨t_of_numbers K w s_Nodes_seen s_reckoned s_is_small, PSs.nox ?_, pure_.run vs H Q E h⟩
  exact (pss_cons (ps_if (PW.pt (pw_and (pt_cmpR op_gt (pe_callB call_lenG (by rfl) T.n_len (by decide +kernel) (pa_cons (pv 4) pa_nil)) pe_int (nomark _)) (pw_and1 (pt_cmpR (op_neG (hu2_of hr)) (pe_ixG (hu_of hr) (pe_ixG (hu_of hr) (pv 4) (pe_un un_neg pe_int) (fun _ _ => rfl)) pe_int (fun _ _ => rfl)) pe_str (nomark _))))) (pss_one (ps_ret (pe_tupN (pa_cons pe_str (pa_cons pe_str pa_nil))))) pss_nil)
  (pss_cons (ps_if (pt_cmpR op_lt (pe_callB call_lenG (by rfl) T.n_len (by decide +kernel) (pa_cons (pv 4) pa_nil)) pe_int (nomark _)) (pss_one (ps_ret (pe_tupN (pa_cons pe_str (pa_cons (pe_mcal (pv 1) c_Nodes_seen hr (pa_cons (pe_ixG (hu_of hr) (pv 2) (pe_callB call_lenG (by rfl) T.n_len (by decide +kernel) (pa_cons (pv 4) pa_nil)) (fun _ _ => rfl)) (pa_cons (pv 3) pa_nil))) pa_nil))))) pss_nil)
  (pss_cons (ps_set (i := 5) sc_of_numbers.nd rfl (Or.inl rfl) (pe_cal c_reckoned hr rfl (pa_cons (pv 0) (pa_cons (pe_ixG (hu_of hr) (pe_ixG (hu_of hr) (pv 4) pe_int (fun _ _ => rfl)) pe_int (fun _ _ => rfl)) (pa_cons (pe_ixG (hu_of hr) (pe_ixG (hu_of hr) (pv 4) pe_int (fun _ _ => rfl)) pe_int (fun _ _ => rfl)) pa_nil)))))
  (pss_cons (ps_if (pt_not (pt_tru (pe_cal c_is_small hr rfl (pa_cons (pv 5) pa_nil)) (by intro _; rfl))) (pss_one (ps_ret (pe_tupN (pa_cons pe_str (pa_cons pe_str pa_nil))))) pss_nil)
  (pss_one (ps_ret (pe_tupN (pa_cons pe_str (pa_cons (pe_tupN (pa_cons pe_str (pa_cons (pv 5) pa_nil))) pa_nil)))))))))
abbrev st_of_when : Stmt := topS 21
theorem sc_of_when : FnScope ["nodes", "inner", "things", "worths", "chosen"] ["nodes", "inner", "things", "worths"] (defScope st_of_when) := ⟨rfl, rfl, rfl, by decide +kernel, rfl, by decide +kernel, by decide +kernel⟩
theorem mk_of_when {P : Program} {w : World} {K : PySem.W.Frag} {mg : Str → Option Value} {base : Heap} (T : TX w K mg) {j : Nat} {sp : Sp} {s_Nodes_seen s_passed : Sp} (c_Nodes_seen : MCal P w K mg base j (He.ga K "Nodes") "seen" s_Nodes_seen) (c_passed : Cal P w K mg base j "passed" s_passed)
    (pure_ : PureOk 4 sp (t_of_when K w s_Nodes_seen s_passed) 5) : Cal P w K mg base (j + 1) "of_when" sp := by
  obtain ⟨fd, F⟩ := T.d_of_when
  refine cal_mk F T.f_of_when sc_of_when (F.bindsN fun _ _ _ _ _ _ us hl => match us, hl with | [_, _, _, _], _ => rfl) pure_.len fun cdv A outer s H vs Q E hr h => ?_
  refine ⟨t_of_when K w s_Nodes_seen s_passed, PSs.nox ?_, pure_.run vs H Q E h⟩
  exact (pss_cons (ps_if (pt_cmpR (op_eqG (hu2_of hr)) (pv 3) (pe_lstN pa_nil) (nomark _)) (pss_one (ps_ret (pe_tupN (pa_cons pe_str (pa_cons (pe_mcal (pv 0) c_Nodes_seen hr (pa_cons (pe_ixG (hu_of hr) (pv 1) pe_int (fun _ _ => rfl)) (pa_cons (pv 2) pa_nil))) pa_nil))))) pss_nil)
  (pss_cons (ps_if (pt_cmpR (op_neG (hu2_of hr)) (pe_ixG (hu_of hr) (pe_ixG (hu_of hr) (pv 3) pe_int (fun _ _ => rfl)) pe_int (fun _ _ => rfl)) pe_str (nomark _)) (pss_one (ps_ret (pe_tupN (pa_cons pe_str (pa_cons pe_str pa_nil))))) pss_nil)
  (pss_cons (ps_set (i := 4) sc_of_when.nd rfl (Or.inl rfl) (pe_ifExp (pt_cmpR (op_neG (hu2_of hr)) (pe_ixG (hu_of hr) (pe_ixG (hu_of hr) (pv 3) pe_int (fun _ _ => rfl)) pe_int (fun _ _ => rfl)) pe_int (nomark _)) (pe_ixG (hu_of hr) (pv 1) pe_int (fun _ _ => rfl)) (pe_ixG (hu_of hr) (pv 1) pe_int (fun _ _ => rfl))))
  (pss_one (ps_ret (pe_cal c_passed hr rfl (pa_cons (pe_mcal (pv 0) c_Nodes_seen hr (pa_cons (pv 4) (pa_cons (pv 2) pa_nil))) (pa_cons (pe_slice sl_any (pv 3) (po_some pe_int) po_none) pa_nil))))))))
abbrev st_of_side : Stmt := topS 22
theorem sc_of_side : FnScope ["kind", "nodes", "inner", "things", "worths"] ["kind", "nodes", "inner", "things", "worths"] (defScope st_of_side) := ⟨rfl, rfl, rfl, by decide +kernel, rfl, by decide +kernel, by decide +kernel⟩
theorem mk_of_side {P : Program} {w : World} {K : PySem.W.Frag} {mg : Str → Option Value} {base : Heap} (T : TX w K mg) {j : Nat} {sp : Sp} {s_Nodes_seen s_passed : Sp} (c_Nodes_seen : MCal P w K mg base j (He.ga K "Nodes") "seen" s_Nodes_seen) (c_passed : Cal P w K mg base j "passed" s_passed)
    (pure_ : PureOk 5 sp (t_of_side K w s_Nodes_seen s_passed) 5) : Cal P w K mg base (j + 1) "of_side" sp := by
  obtain ⟨fd, F⟩ := T.d_of_side
  refine cal_mk F T.f_of_side sc_of_side (F.bindsN fun _ _ _ _ _ _ us hl => match us, hl with | [_, _, _, _, _], _ => rfl) pure_.len fun cdv A outer s H vs Q E hr h => ?_
  refine ⟨t_of_side K w s_Nodes_seen s_passed, PSs.nox ?_, pure_.run vs H Q E h⟩
  exact (pss_cons (ps_if (pt_cmpR (op_eqG (hu2_of hr)) (pv 4) (pe_lstN pa_nil) (nomark _)) (pss_one (ps_ret (pe_tupN (pa_cons pe_str (pa_cons (pe_mcal (pv 1) c_Nodes_seen hr (pa_cons (pe_ixG (hu_of hr) (pv 2) pe_int (fun _ _ => rfl)) (pa_cons (pv 3) pa_nil))) pa_nil))))) pss_nil)
  (pss_cons (ps_if (pt_cmpR (op_neG (hu2_of hr)) (pe_ixG (hu_of hr) (pe_ixG (hu_of hr) (pv 4) pe_int (fun _ _ => rfl)) pe_int (fun _ _ => rfl)) pe_str (nomark _)) (pss_one (ps_ret (pe_tupN (pa_cons pe_str (pa_cons pe_str pa_nil))))) pss_nil)
  (pss_one (ps_ret (pe_cal c_passed hr rfl (pa_cons (pe_ixG (hu_of hr) (pe_ixG (hu_of hr) (pv 4) pe_int (fun _ _ => rfl)) (pe_ifExp (pt_cmpR (op_eqG (hu2_of hr)) (pv 0) pe_str (nomark _)) pe_int pe_int) (fun _ _ => rfl)) (pa_cons (pe_slice sl_any (pv 4) (po_some pe_int) po_none) pa_nil)))))))
abbrev st_behind : Stmt := topS 23
theorem sc_behind : FnScope ["nodes", "number", "worths", "place", "things", "part", "inner"] ["nodes", "number", "worths"] (defScope st_behind) := ⟨rfl, rfl, rfl, by decide +kernel, rfl, by decide +kernel, by decide +kernel⟩
theorem mk_behind {P : Program} {w : World} {K : PySem.W.Frag} {mg : Str → Option Value} {base : Heap} (T : TX w K mg) {j : Nat} {sp : Sp} {s_Nodes_told s_Nodes_part s_Nodes_inner s_Nodes_seen s_passed s_of_fun s_of_give s_of_numbers s_of_when s_of_side : Sp} (c_Nodes_told : MCal P w K mg base j (He.ga K "Nodes") "told" s_Nodes_told) (c_Nodes_part : MCal P w K mg base j (He.ga K "Nodes") "part" s_Nodes_part) (c_Nodes_inner : MCal P w K mg base j (He.ga K "Nodes") "inner" s_Nodes_inner) (c_Nodes_seen : MCal P w K mg base j (He.ga K "Nodes") "seen" s_Nodes_seen) (c_passed : Cal P w K mg base j "passed" s_passed) (c_of_fun : Cal P w K mg base j "of_fun" s_of_fun) (c_of_give : Cal P w K mg base j "of_give" s_of_give) (c_of_numbers : Cal P w K mg base j "of_numbers" s_of_numbers) (c_of_when : Cal P w K mg base j "of_when" s_of_when) (c_of_side : Cal P w K mg base j "of_side" s_of_side)
    (pure_ : PureOk 3 sp (t_behind K w s_Nodes_told s_Nodes_part s_Nodes_inner s_Nodes_seen s_passed s_of_fun s_of_give s_of_numbers s_of_when s_of_side) 7) : Cal P w K mg base (j + 1) "behind" sp := by
  obtain ⟨fd, F⟩ := T.d_behind
  refine cal_mk F T.f_behind sc_behind (F.bindsN fun _ _ _ _ _ _ us hl => match us, hl with | [_, _, _], _ => rfl) pure_.len fun cdv A outer s H vs Q E hr h => ?_
  refine ⟨t_behind K w s_Nodes_told s_Nodes_part s_Nodes_inner s_Nodes_seen s_passed s_of_fun s_of_give s_of_numbers s_of_when s_of_side, PSs.nox ?_, pure_.run vs H Q E h⟩
  exact (pss_cons (ps_asg (pe_mcal (pv 0) c_Nodes_told hr (pa_cons (pv 1) pa_nil)) (pg_tup rfl (pgs_cons (pg_name (i := 3) sc_behind.nd rfl (by first | exact Or.inl rfl | exact Or.inr rfl)) (pgs_cons (pg_name (i := 4) sc_behind.nd rfl (by first | exact Or.inl rfl | exact Or.inr rfl)) pgs_nil))))
  (pss_cons (ps_set (i := 5) sc_behind.nd rfl (Or.inl rfl) (pe_mcal (pv 0) c_Nodes_part hr (pa_cons (pv 3) pa_nil)))
  (pss_cons (ps_set (i := 6) sc_behind.nd rfl (Or.inl rfl) (pe_mcal (pv 0) c_Nodes_inner hr (pa_cons (pv 3) pa_nil)))
  (pss_cons (ps_if (pt_cmpR (op_eqG (hu2_of hr)) (pe_ixG (hu_of hr) (pv 5) pe_int (fun _ _ => rfl)) pe_str (nomark _)) (pss_one (ps_ret (pe_tupN (pa_cons pe_str (pa_cons (pe_tupN (pa_cons pe_str (pa_cons (pe_ixG (hu_of hr) (pv 5) pe_int (fun _ _ => rfl)) pa_nil))) pa_nil))))) pss_nil)
  (pss_cons (ps_if (pt_cmpR (op_eqG (hu2_of hr)) (pe_ixG (hu_of hr) (pv 5) pe_int (fun _ _ => rfl)) pe_str (nomark _)) (pss_one (ps_ret (pe_tupN (pa_cons pe_str (pa_cons (pe_tupN (pa_cons pe_str (pa_cons (pe_mcal (pv 0) c_Nodes_seen hr (pa_cons (pe_ixG (hu_of hr) (pv 6) pe_int (fun _ _ => rfl)) (pa_cons (pv 4) pa_nil))) (pa_cons (pe_mcal (pv 0) c_Nodes_seen hr (pa_cons (pe_ixG (hu_of hr) (pv 6) pe_int (fun _ _ => rfl)) (pa_cons (pv 4) pa_nil))) pa_nil)))) pa_nil))))) pss_nil)
  (pss_cons (ps_if (pt_cmpR (op_eqG (hu2_of hr)) (pe_ixG (hu_of hr) (pv 5) pe_int (fun _ _ => rfl)) pe_str (nomark _)) (pss_one (ps_ret (pe_cal c_passed hr rfl (pa_cons (pe_mcal (pv 0) c_Nodes_seen hr (pa_cons (pv 3) (pa_cons (pv 4) pa_nil))) (pa_cons (pv 2) pa_nil))))) pss_nil)
  (pss_cons (ps_if (pt_cmpR (op_eqG (hu2_of hr)) (pe_ixG (hu_of hr) (pv 5) pe_int (fun _ _ => rfl)) pe_str (nomark _)) (pss_one (ps_ret (pe_cal c_passed hr rfl (pa_cons (pe_mcal (pv 0) c_Nodes_seen hr (pa_cons (pe_ixG (hu_of hr) (pv 6) (pe_un un_neg pe_int) (fun _ _ => rfl)) (pa_cons (pv 4) pa_nil))) (pa_cons (pv 2) pa_nil))))) pss_nil)
  (pss_cons (ps_if (pt_cmpR (op_eqG (hu2_of hr)) (pe_ixG (hu_of hr) (pv 5) pe_int (fun _ _ => rfl)) pe_str (nomark _)) (pss_one (ps_ret (pe_cal c_of_fun hr rfl (pa_cons (pv 0) (pa_cons (pe_ixG (hu_of hr) (pv 5) pe_int (fun _ _ => rfl)) (pa_cons (pv 2) pa_nil)))))) pss_nil)
  (pss_cons (ps_if (pt_cmpR (op_eqG (hu2_of hr)) (pe_ixG (hu_of hr) (pv 5) pe_int (fun _ _ => rfl)) pe_str (nomark _)) (pss_one (ps_ret (pe_cal c_of_give hr rfl (pa_cons (pv 0) (pa_cons (pv 6) (pa_cons (pv 4) (pa_cons (pv 2) pa_nil))))))) pss_nil)
  (pss_cons (ps_if (pt_cmpR (op_inG (hu_of hr)) (pe_ixG (hu_of hr) (pv 5) pe_int (fun _ _ => rfl)) (pe_glob (v := .ref (He.ga K "OPERATIONS")) rfl T.g_OPERATIONS rfl) (by rfl)) (pss_one (ps_ret (pe_cal c_of_numbers hr rfl (pa_cons (pe_ixG (hu_of hr) (pv 5) pe_int (fun _ _ => rfl)) (pa_cons (pv 0) (pa_cons (pv 6) (pa_cons (pv 4) (pa_cons (pv 2) pa_nil)))))))) pss_nil)
  (pss_cons (ps_if (pt_cmpR (op_eqG (hu2_of hr)) (pe_ixG (hu_of hr) (pv 5) pe_int (fun _ _ => rfl)) pe_str (nomark _)) (pss_one (ps_ret (pe_cal c_of_when hr rfl (pa_cons (pv 0) (pa_cons (pv 6) (pa_cons (pv 4) (pa_cons (pv 2) pa_nil))))))) pss_nil)
  (pss_one (ps_ret (pe_cal c_of_side hr rfl (pa_cons (pe_ixG (hu_of hr) (pv 5) pe_int (fun _ _ => rfl)) (pa_cons (pv 0) (pa_cons (pv 6) (pa_cons (pv 4) (pa_cons (pv 2) pa_nil)))))))))))))))))))
abbrev st_inner_places : Stmt := topS 25
theorem sc_inner_places : FnScope ["part", "place", "found", "at", "one"] ["part", "place"] (defScope st_inner_places) := ⟨rfl, rfl, rfl, by decide +kernel, rfl, by decide +kernel, by decide +kernel⟩
theorem mk_inner_places {P : Program} {w : World} {K : PySem.W.Frag} {mg : Str → Option Value} {base : Heap} (T : TX w K mg) {j : Nat} {sp : Sp} {s_within s_many_in : Sp} (c_within : Cal P w K mg base j "within" s_within) (c_many_in : Cal P w K mg base j "many_in" s_many_in)
    (pure_ : PureOk 2 sp (t_inner_places K w s_within s_many_in) 5) : Cal P w K mg base (j + 1) "inner_places" sp := by
  obtain ⟨fd, F⟩ := T.d_inner_places
  refine cal_mk F T.f_inner_places sc_inner_places (F.bindsN fun _ _ _ _ _ _ us hl => match us, hl with | [_, _], _ => rfl) pure_.len fun cdv A outer s H vs Q E hr h => ?_
  refine ⟨t_inner_places K w s_within s_many_in, PSs.nox ?_, pure_.run vs H Q E h⟩
  exact (pss_cons (ps_set (i := 2) sc_inner_places.nd rfl (Or.inl rfl) (pe_lstN pa_nil))
  (pss_cons (ps_set (i := 3) sc_inner_places.nd rfl (Or.inl rfl) (pe_op op_addG (pv 1) pe_int))
  (pss_cons (ps_for PassesOwn.never rfl (pi_seq (pe_cal c_within hr rfl (pa_cons (pv 0) pa_nil))) (pg_name (i := 4) sc_inner_places.nd rfl (by first | exact Or.inl rfl | exact Or.inr rfl)) (pss_cons (ps_expr (pe_bm PySem.F.plainAttrs_list PySem.F.slot_list_append PySem.F.type_list_append mt_appendG (pv 2) (pa_cons (pv 3) pa_nil)))
  (pss_one (ps_set (i := 3) sc_inner_places.nd rfl (Or.inl rfl) (pe_op op_addG (pv 3) (pe_cal c_many_in hr rfl (pa_cons (pv 4) pa_nil)))))))
  (pss_one (ps_ret (pv 2))))))
abbrev st_with_rows : Stmt := topS 26
theorem sc_with_rows : FnScope ["part", "inner", "known", "found", "row", "at"] ["part", "inner", "known"] (defScope st_with_rows) := ⟨rfl, rfl, rfl, by decide +kernel, rfl, by decide +kernel, by decide +kernel⟩
theorem mk_with_rows {P : Program} {w : World} {K : PySem.W.Frag} {mg : Str → Option Value} {base : Heap} (T : TX w K mg) {j : Nat} {sp : Sp}
    (pure_ : PureOk 3 sp (t_with_rows K w ) 6) : Cal P w K mg base (j + 1) "with_rows" sp := by
  obtain ⟨fd, F⟩ := T.d_with_rows
  refine cal_mk F T.f_with_rows sc_with_rows (F.bindsN fun _ _ _ _ _ _ us hl => match us, hl with | [_, _, _], _ => rfl) pure_.len fun cdv A outer s H vs Q E hr h => ?_
  refine ⟨t_with_rows K w , PSs.nox ?_, pure_.run vs H Q E h⟩
  exact (pss_cons (ps_set (i := 3) sc_with_rows.nd rfl (Or.inl rfl) (pe_callTy call_dictG (by rfl) T.n_dict (by decide +kernel) (pa_cons (pv 2) pa_nil)))
  (pss_cons (ps_for PassesOwn.never rfl (pi_zipM (by rfl) T.n_zip (pa_cons (pe_ixG (hu_of hr) (pv 0) pe_int (fun _ _ => rfl)) (pa_cons (pv 1) pa_nil))) (pg_tup rfl (pgs_cons (pg_name (i := 4) sc_with_rows.nd rfl (by first | exact Or.inl rfl | exact Or.inr rfl)) (pgs_cons (pg_name (i := 5) sc_with_rows.nd rfl (by first | exact Or.inl rfl | exact Or.inr rfl)) pgs_nil))) (pss_one (ps_asg (pe_tupN (pa_cons pe_str (pa_cons (pv 5) pa_nil))) (pg_sub (pv 3) (pe_ixG (hu_of hr) (pv 4) pe_int (fun _ _ => rfl)) (set_any (hu_of hr))))))
  (pss_one (ps_ret (pv 3)))))
abbrev st_grounds : Stmt := topS 27
theorem sc_grounds : FnScope ["part", "place", "known", "inner", "named", "found", "one", "at"] ["part", "place", "known"] (defScope st_grounds) := ⟨rfl, rfl, rfl, by decide +kernel, rfl, by decide +kernel, by decide +kernel⟩
theorem mk_grounds {P : Program} {w : World} {K : PySem.W.Frag} {mg : Str → Option Value} {base : Heap} (T : TX w K mg) {j : Nat} {sp : Sp} {s_inner_places s_with_rows s_within s_grounds : Sp} (c_inner_places : Cal P w K mg base j "inner_places" s_inner_places) (c_with_rows : Cal P w K mg base j "with_rows" s_with_rows) (c_within : Cal P w K mg base j "within" s_within) (c_grounds : Cal P w K mg base j "grounds" s_grounds)
    (pure_ : PureOk 3 sp (t_grounds K w s_inner_places s_with_rows s_within s_grounds) 8) : Cal P w K mg base (j + 1) "grounds" sp := by
  obtain ⟨fd, F⟩ := T.d_grounds
  refine cal_mk F T.f_grounds sc_grounds (F.bindsN fun _ _ _ _ _ _ us hl => match us, hl with | [_, _, _], _ => rfl) pure_.len fun cdv A outer s H vs Q E hr h => ?_
  refine ⟨t_grounds K w s_inner_places s_with_rows s_within s_grounds, PSs.nox ?_, pure_.run vs H Q E h⟩
  exact (pss_cons (ps_set (i := 3) sc_grounds.nd rfl (Or.inl rfl) (pe_cal c_inner_places hr rfl (pa_cons (pv 0) (pa_cons (pv 1) pa_nil))))
  (pss_cons (ps_if (pt_cmpR (op_eqG (hu2_of hr)) (pe_ixG (hu_of hr) (pv 0) pe_int (fun _ _ => rfl)) pe_str (nomark _)) (pss_one (ps_set (i := 2) sc_grounds.nd rfl (Or.inl rfl) (pe_cal c_with_rows hr rfl (pa_cons (pv 0) (pa_cons (pv 3) (pa_cons (pv 2) pa_nil)))))) pss_nil)
  (pss_cons (ps_set (i := 4) sc_grounds.nd rfl (Or.inl rfl) (pe_ifExp (pt_cmpR (op_eqG (hu2_of hr)) (pe_ixG (hu_of hr) (pv 0) pe_int (fun _ _ => rfl)) pe_str (nomark _)) (pe_ixG (hu_of hr) (pv 2) (pe_ixG (hu_of hr) (pv 0) pe_int (fun _ _ => rfl)) (fun _ _ => rfl)) pe_non))
  (pss_cons (ps_set (i := 5) sc_grounds.nd rfl (Or.inl rfl) (pe_lstN (pa_cons (pe_tupN (pa_cons (pv 0) (pa_cons (pv 3) (pa_cons (pv 4) pa_nil)))) pa_nil)))
  (pss_cons (ps_for PassesOwn.never rfl (pi_zipM (by rfl) T.n_zip (pa_cons (pe_cal c_within hr rfl (pa_cons (pv 0) pa_nil)) (pa_cons (pv 3) pa_nil))) (pg_tup rfl (pgs_cons (pg_name (i := 6) sc_grounds.nd rfl (by first | exact Or.inl rfl | exact Or.inr rfl)) (pgs_cons (pg_name (i := 7) sc_grounds.nd rfl (by first | exact Or.inl rfl | exact Or.inr rfl)) pgs_nil))) (pss_one (ps_expr (pe_bm PySem.F.plainAttrs_list PySem.F.slot_list_extend PySem.F.type_list_extend mt_extendG (pv 5) (pa_cons (pe_cal c_grounds hr rfl (pa_cons (pv 6) (pa_cons (pv 7) (pa_cons (pv 2) pa_nil)))) pa_nil)))))
  (pss_one (ps_ret (pv 5))))))))
abbrev st_ground_of : Stmt := topS 28
theorem sc_ground_of : FnScope ["program", "found", "names", "body", "name", "known", "k"] ["program"] (defScope st_ground_of) := ⟨rfl, rfl, rfl, by decide +kernel, rfl, by decide +kernel, by decide +kernel⟩
theorem mk_ground_of {P : Program} {w : World} {K : PySem.W.Frag} {mg : Str → Option Value} {base : Heap} (T : TX w K mg) {j : Nat} {sp : Sp} {s_grounds : Sp} (c_grounds : Cal P w K mg base j "grounds" s_grounds)
    (pure_ : PureOk 1 sp (t_ground_of K w s_grounds) 7) : Cal P w K mg base (j + 1) "ground_of" sp := by
  obtain ⟨fd, F⟩ := T.d_ground_of
  refine cal_mk F T.f_ground_of sc_ground_of (F.bindsN fun _ _ _ _ _ _ us hl => match us, hl with | [_], _ => rfl) pure_.len fun cdv A outer s H vs Q E hr h => ?_
  refine ⟨t_ground_of K w s_grounds, PSs.nox ?_, pure_.run vs H Q E h⟩
  exact (pss_cons (ps_set (i := 1) sc_ground_of.nd rfl (Or.inl rfl) (pe_lstN pa_nil))
  (pss_cons (ps_for PassesOwn.never rfl (pi_seq (pe_op op_addG (pe_lc (own := [("name", 4), ("names", 2), ("body", 3)]) (g := (gTup K 3 (gCons (gName 4) (gCons (gName 2) (gCons (gName 3) gNil))))) (tt := tYes) rfl sc_ground_of.nd (pi_seq (pe_ixG (hu_of hr) (pv 0) pe_int (fun _ _ => rfl))) (blkOk_by (by kernel_rfl)) (fun _ _ _ _ _ => (pg_tup rfl (pgs_cons (pg_name (i := 4) sc_ground_of.nd rfl (by first | exact Or.inl rfl | exact Or.inr rfl)) (pgs_cons (pg_name (i := 2) sc_ground_of.nd rfl (by first | exact Or.inl rfl | exact Or.inr rfl)) (pgs_cons (pg_name (i := 3) sc_ground_of.nd rfl (by first | exact Or.inl rfl | exact Or.inr rfl)) pgs_nil))))) (fun _ _ _ _ _ => pts_nil) (fun _ _ _ _ _ => (pe_tupN (pa_cons (pv 2) (pa_cons (pv 3) pa_nil))))) (pe_lstN (pa_cons (pe_tupN (pa_cons (pe_tupN pa_nil) (pa_cons (pe_ixG (hu_of hr) (pv 0) pe_int (fun _ _ => rfl)) pa_nil))) pa_nil)))) (pg_tup rfl (pgs_cons (pg_name (i := 2) sc_ground_of.nd rfl (by first | exact Or.inl rfl | exact Or.inr rfl)) (pgs_cons (pg_name (i := 3) sc_ground_of.nd rfl (by first | exact Or.inl rfl | exact Or.inr rfl)) pgs_nil))) (pss_cons (ps_set (i := 5) sc_ground_of.nd rfl (Or.inl rfl) pe_dnewKN)
  (pss_cons (ps_for PassesOwn.never rfl (pi_enumT (by rfl) T.n_enumerate (pa_cons (pv 2) pa_nil)) (pg_tup rfl (pgs_cons (pg_name (i := 6) sc_ground_of.nd rfl (by first | exact Or.inl rfl | exact Or.inr rfl)) (pgs_cons (pg_name (i := 4) sc_ground_of.nd rfl (by first | exact Or.inl rfl | exact Or.inr rfl)) pgs_nil))) (pss_one (ps_asg (pe_tupN (pa_cons pe_str (pa_cons (pv 6) pa_nil))) (pg_sub (pv 5) (pv 4) (set_any (hu_of hr))))))
  (pss_one (ps_expr (pe_bm PySem.F.plainAttrs_list PySem.F.slot_list_extend PySem.F.type_list_extend mt_extendG (pv 1) (pa_cons (pe_cal c_grounds hr rfl (pa_cons (pv 3) (pa_cons (pe_callB call_lenG (by rfl) T.n_len (by decide +kernel) (pa_cons (pv 1) pa_nil)) (pa_cons (pv 5) pa_nil)))) pa_nil)))))))
  (pss_one (ps_ret (pv 1)))))
abbrev st_Nodes___init__ : Stmt := inClass (topS 29) 0
theorem sc_Nodes___init__ : FnScope ["self", "program", "f", "name", "names", "body"] ["self", "program"] (defScope st_Nodes___init__) := ⟨rfl, rfl, rfl, by decide +kernel, rfl, by decide +kernel, by decide +kernel⟩
theorem mk_Nodes___init__ {P : Program} {w : World} {K : PySem.W.Frag} {mg : Str → Option Value} {base : Heap} (T : TX w K mg) {j : Nat} {sp : Sp} {s_ground_of s_wants s_body_place : Sp} (c_ground_of : Cal P w K mg base j "ground_of" s_ground_of) (c_wants : Cal P w K mg base j "wants" s_wants) (c_body_place : Cal P w K mg base j "body_place" s_body_place)
    (pure_ : PureOk 2 sp (t_Nodes___init__ K w s_ground_of s_wants s_body_place) 6) : KCal P w K mg base (j + 2) "Nodes" (He.ga K "Nodes") sp := by
  obtain ⟨fd, F⟩ := T.d_Nodes___init__
  refine kcal_mk F T.i_Nodes T.g_Nodes sc_Nodes___init__ (F.bindsN fun _ _ _ _ _ _ us hl => match us, hl with | [_, _], _ => rfl) pure_.len fun cdv A outer s H vs Q E hr h => ?_
  refine ⟨t_Nodes___init__ K w s_ground_of s_wants s_body_place, PSs.nox ?_, pure_.run vs H Q E h⟩
  exact (pss_cons (ps_fld (pv 0) (pv 1) rfl)
  (pss_cons (ps_fld (pv 0) (pe_cal c_ground_of hr rfl (pa_cons (pv 1) pa_nil)) rfl)
  (pss_cons (ps_fld (pv 0) (pe_lstN pa_nil) rfl)
  (pss_cons (ps_fld (pv 0) pe_dnewKN rfl)
  (pss_cons (ps_fld (pv 0) pe_bl rfl)
  (pss_cons (ps_fld (pv 0) pe_dnewKN rfl)
  (pss_one (ps_for PassesOwn.never rfl (pi_seq (pe_op op_addG (pe_lc (own := [("name", 3), ("names", 4), ("body", 5)]) (g := (gTup K 3 (gCons (gName 3) (gCons (gName 4) (gCons (gName 5) gNil))))) (tt := tYes) rfl sc_Nodes___init__.nd (pi_seq (pe_ixG (hu_of hr) (pv 1) pe_int (fun _ _ => rfl))) (blkOk_by (by kernel_rfl)) (fun _ _ _ _ _ => (pg_tup rfl (pgs_cons (pg_name (i := 3) sc_Nodes___init__.nd rfl (by first | exact Or.inl rfl | exact Or.inr rfl)) (pgs_cons (pg_name (i := 4) sc_Nodes___init__.nd rfl (by first | exact Or.inl rfl | exact Or.inr rfl)) (pgs_cons (pg_name (i := 5) sc_Nodes___init__.nd rfl (by first | exact Or.inl rfl | exact Or.inr rfl)) pgs_nil))))) (fun _ _ _ _ _ => pts_nil) (fun _ _ _ _ _ => (pv 3))) (pe_lstN (pa_cons pe_str pa_nil)))) (pg_name (i := 2) sc_Nodes___init__.nd rfl (by first | exact Or.inl rfl | exact Or.inr rfl)) (pss_one (ps_asg (pe_tupN (pa_cons (pe_cal c_body_place hr rfl (pa_cons (pv 1) (pa_cons (pv 2) pa_nil))) (pa_cons (pe_cal c_wants hr rfl (pa_cons (pv 1) (pa_cons (pv 2) pa_nil))) pa_nil))) (pg_sub (pe_fld (pv 0) rfl) (pv 2) (set_any (hu_of hr)))))))))))))
abbrev st_Nodes_part : Stmt := inClass (topS 29) 1
theorem sc_Nodes_part : FnScope ["self", "place"] ["self", "place"] (defScope st_Nodes_part) := ⟨rfl, rfl, rfl, by decide +kernel, rfl, by decide +kernel, by decide +kernel⟩
theorem mk_Nodes_part {P : Program} {w : World} {K : PySem.W.Frag} {mg : Str → Option Value} {base : Heap} (T : TX w K mg) {j : Nat} {sp : Sp}
    (pure_ : PureOk 2 sp (t_Nodes_part K w ) 2) : MCal P w K mg base (j + 1) (He.ga K "Nodes") "part" sp := by
  obtain ⟨fd, F⟩ := T.d_Nodes_part
  refine mcal_mk F T.m_Nodes_part T.c_Nodes sc_Nodes_part (F.bindsN fun _ _ _ _ _ _ us hl => match us, hl with | [_, _], _ => rfl) pure_.len fun cdv A outer s H vs Q E hr h => ?_
  refine ⟨t_Nodes_part K w , PSs.nox ?_, pure_.run vs H Q E h⟩
  exact (pss_one (ps_ret (pe_ixG (hu_of hr) (pe_ixG (hu_of hr) (pe_fld (pv 0) rfl) (pv 1) (fun _ _ => rfl)) pe_int (fun _ _ => rfl))))
abbrev st_Nodes_inner : Stmt := inClass (topS 29) 2
theorem sc_Nodes_inner : FnScope ["self", "place"] ["self", "place"] (defScope st_Nodes_inner) := ⟨rfl, rfl, rfl, by decide +kernel, rfl, by decide +kernel, by decide +kernel⟩
theorem mk_Nodes_inner {P : Program} {w : World} {K : PySem.W.Frag} {mg : Str → Option Value} {base : Heap} (T : TX w K mg) {j : Nat} {sp : Sp}
    (pure_ : PureOk 2 sp (t_Nodes_inner K w ) 2) : MCal P w K mg base (j + 1) (He.ga K "Nodes") "inner" sp := by
  obtain ⟨fd, F⟩ := T.d_Nodes_inner
  refine mcal_mk F T.m_Nodes_inner T.c_Nodes sc_Nodes_inner (F.bindsN fun _ _ _ _ _ _ us hl => match us, hl with | [_, _], _ => rfl) pure_.len fun cdv A outer s H vs Q E hr h => ?_
  refine ⟨t_Nodes_inner K w , PSs.nox ?_, pure_.run vs H Q E h⟩
  exact (pss_one (ps_ret (pe_callTy (call_listG rfl) (by rfl) T.n_list (by decide +kernel) (pa_cons (pe_ixG (hu_of hr) (pe_ixG (hu_of hr) (pe_fld (pv 0) rfl) (pv 1) (fun _ _ => rfl)) pe_int (fun _ _ => rfl)) pa_nil))))
abbrev st_Nodes_door : Stmt := inClass (topS 29) 3
theorem sc_Nodes_door : FnScope ["self", "f"] ["self", "f"] (defScope st_Nodes_door) := ⟨rfl, rfl, rfl, by decide +kernel, rfl, by decide +kernel, by decide +kernel⟩
theorem mk_Nodes_door {P : Program} {w : World} {K : PySem.W.Frag} {mg : Str → Option Value} {base : Heap} (T : TX w K mg) {j : Nat} {sp : Sp}
    (pure_ : PureOk 2 sp (t_Nodes_door K w ) 2) : MCal P w K mg base (j + 1) (He.ga K "Nodes") "door" sp := by
  obtain ⟨fd, F⟩ := T.d_Nodes_door
  refine mcal_mk F T.m_Nodes_door T.c_Nodes sc_Nodes_door (F.bindsN fun _ _ _ _ _ _ us hl => match us, hl with | [_, _], _ => rfl) pure_.len fun cdv A outer s H vs Q E hr h => ?_
  refine ⟨t_Nodes_door K w , PSs.nox ?_, pure_.run vs H Q E h⟩
  exact (pss_one (ps_ret (pe_dget2 (hu_of hr) (pe_fld (pv 0) rfl) (pv 1) (pe_ixG (hu_of hr) (pe_fld (pv 0) rfl) pe_str (fun _ _ => rfl)) ⟨rfl, rfl, rfl, rfl⟩)))
abbrev st_Nodes_node : Stmt := inClass (topS 29) 4
theorem sc_Nodes_node : FnScope ["self", "place", "things", "row"] ["self", "place", "things"] (defScope st_Nodes_node) := ⟨rfl, rfl, rfl, by decide +kernel, rfl, by decide +kernel, by decide +kernel⟩
theorem mk_Nodes_node {P : Program} {w : World} {K : PySem.W.Frag} {mg : Str → Option Value} {base : Heap} (T : TX w K mg) {j : Nat} {sp : Sp}
    (pure_ : PureOk 3 sp (t_Nodes_node K w ) 4) : MCal P w K mg base (j + 1) (He.ga K "Nodes") "node" sp := by
  obtain ⟨fd, F⟩ := T.d_Nodes_node
  refine mcal_mk F T.m_Nodes_node T.c_Nodes sc_Nodes_node (F.bindsN fun _ _ _ _ _ _ us hl => match us, hl with | [_, _, _], _ => rfl) pure_.len fun cdv A outer s H vs Q E hr h => ?_
  refine ⟨t_Nodes_node K w , PSs.nox ?_, pure_.run vs H Q E h⟩
  exact (pss_cons (ps_set (i := 3) sc_Nodes_node.nd rfl (Or.inl rfl) (pe_tupN (pa_cons (pv 1) (pa_cons (pe_callTy call_tupleG (by rfl) T.n_tuple (by decide +kernel) (pa_cons (pv 2) pa_nil)) pa_nil))))
  (pss_cons (ps_if (PW.pt (pw_and (pt_cmpR (op_notInGN (hu20_of hr)) (pv 3) (pe_fld (pv 0) rfl) (by rfl)) (pw_and1 (pt_tru (pe_fld (pv 0) rfl) (by intro _; rfl))))) (pss_one (ps_ret (pe_un un_neg pe_int))) pss_nil)
  (pss_cons (ps_if (pt_cmpR (op_notInGN (hu20_of hr)) (pv 3) (pe_fld (pv 0) rfl) (by rfl)) (pss_cons (ps_asg (pe_callB call_lenG (by rfl) T.n_len (by decide +kernel) (pa_cons (pe_fld (pv 0) rfl) pa_nil)) (pg_sub (pe_fld (pv 0) rfl) (pv 3) (set_anyN (hu20_of hr))))
  (pss_one (ps_expr (pe_bm PySem.F.plainAttrs_list PySem.F.slot_list_append PySem.F.type_list_append mt_appendG (pe_fld (pv 0) rfl) (pa_cons (pv 3) pa_nil))))) pss_nil)
  (pss_one (ps_ret (pe_ixN (hu20_of hr) (pe_fld (pv 0) rfl) (pv 3) (fun _ _ => rfl)))))))
abbrev st_Nodes_seen : Stmt := inClass (topS 29) 6
theorem sc_Nodes_seen : FnScope ["self", "place", "things", "named"] ["self", "place", "things"] (defScope st_Nodes_seen) := ⟨rfl, rfl, rfl, by decide +kernel, rfl, by decide +kernel, by decide +kernel⟩
theorem mk_Nodes_seen {P : Program} {w : World} {K : PySem.W.Frag} {mg : Str → Option Value} {base : Heap} (T : TX w K mg) {j : Nat} {sp : Sp} {s_Nodes_node : Sp} (c_Nodes_node : MCal P w K mg base j (He.ga K "Nodes") "node" s_Nodes_node)
    (pure_ : PureOk 3 sp (t_Nodes_seen K w s_Nodes_node) 4) : MCal P w K mg base (j + 1) (He.ga K "Nodes") "seen" sp := by
  obtain ⟨fd, F⟩ := T.d_Nodes_seen
  refine mcal_mk F T.m_Nodes_seen T.c_Nodes sc_Nodes_seen (F.bindsN fun _ _ _ _ _ _ us hl => match us, hl with | [_, _, _], _ => rfl) pure_.len fun cdv A outer s H vs Q E hr h => ?_
  refine ⟨t_Nodes_seen K w s_Nodes_node, PSs.nox ?_, pure_.run vs H Q E h⟩
  exact (pss_cons (ps_set (i := 3) sc_Nodes_seen.nd rfl (Or.inl rfl) (pe_ixG (hu_of hr) (pe_ixG (hu_of hr) (pe_fld (pv 0) rfl) (pv 1) (fun _ _ => rfl)) pe_int (fun _ _ => rfl)))
  (pss_cons (ps_if (pt_cmpR op_isG (pv 3) pe_non (nomark _)) (pss_one (ps_ret (pe_mcal (pv 0) c_Nodes_node hr (pa_cons (pv 1) (pa_cons (pv 2) pa_nil))))) pss_nil)
  (pss_cons (ps_if (pt_cmpR (op_eqG (hu2_of hr)) (pe_ixG (hu_of hr) (pv 3) pe_int (fun _ _ => rfl)) pe_str (nomark _)) (pss_one (ps_ret (pe_ixG (hu_of hr) (pv 2) (pe_ixG (hu_of hr) (pv 3) pe_int (fun _ _ => rfl)) (fun _ _ => rfl)))) pss_nil)
  (pss_one (ps_ret (pe_mcal (pv 0) c_Nodes_node hr (pa_cons (pe_ixG (hu_of hr) (pv 3) pe_int (fun _ _ => rfl)) (pa_cons (pv 2) pa_nil))))))))
abbrev st_Nodes_told : Stmt := inClass (topS 29) 7
theorem sc_Nodes_told : FnScope ["self", "number"] ["self", "number"] (defScope st_Nodes_told) := ⟨rfl, rfl, rfl, by decide +kernel, rfl, by decide +kernel, by decide +kernel⟩
theorem mk_Nodes_told {P : Program} {w : World} {K : PySem.W.Frag} {mg : Str → Option Value} {base : Heap} (T : TX w K mg) {j : Nat} {sp : Sp}
    (pure_ : PureOk 2 sp (t_Nodes_told K w ) 2) : MCal P w K mg base (j + 1) (He.ga K "Nodes") "told" sp := by
  obtain ⟨fd, F⟩ := T.d_Nodes_told
  refine mcal_mk F T.m_Nodes_told T.c_Nodes sc_Nodes_told (F.bindsN fun _ _ _ _ _ _ us hl => match us, hl with | [_, _], _ => rfl) pure_.len fun cdv A outer s H vs Q E hr h => ?_
  refine ⟨t_Nodes_told K w , PSs.nox ?_, pure_.run vs H Q E h⟩
  exact (pss_one (ps_ret (pe_ixG (hu_of hr) (pe_fld (pv 0) rfl) (pv 1) (fun _ _ => rfl))))
abbrev st_law_pen : Stmt := topS 31
theorem sc_law_pen : FnScope ["_law_script"] ["_law_script"] (defScope st_law_pen) := ⟨rfl, rfl, rfl, by decide +kernel, rfl, by decide +kernel, by decide +kernel⟩
theorem mk_law_pen {P : Program} {w : World} {K : PySem.W.Frag} {mg : Str → Option Value} {base : Heap} (T : TX w K mg) {j : Nat} {sp : Sp}
    (pure_ : PureOk 1 sp (t_law_pen K w ) 1) : Cal P w K mg base (j + 1) "_law_pen" sp := by
  obtain ⟨fd, F⟩ := T.d_law_pen
  refine cal_mk F T.f_law_pen sc_law_pen (F.bindsN fun _ _ _ _ _ _ us hl => match us, hl with | [_], _ => rfl) pure_.len fun cdv A outer s H vs Q E hr h => ?_
  refine ⟨t_law_pen K w , PSs.nox ?_, pure_.run vs H Q E h⟩
  exact (pss_one (ps_ret (pe_lstN (pa_cons (pe_callTy (call_listG rfl) (by rfl) T.n_list (by decide +kernel) (pa_cons (pe_slice sl_any (pv 0) po_none (po_some pe_int)) pa_nil)) (pa_cons pe_int (pa_cons pe_int pa_nil))))))
abbrev st_law_draw : Stmt := topS 32
theorem sc_law_draw : FnScope ["_law_pen_here", "_law_many_here", "_law_digit", "_law_at", "_law_cell", "_law_prime", "_law_number_here"] ["_law_pen_here", "_law_many_here"] (defScope st_law_draw) := ⟨rfl, rfl, rfl, by decide +kernel, rfl, by decide +kernel, by decide +kernel⟩
theorem mk_law_draw {P : Program} {w : World} {K : PySem.W.Frag} {mg : Str → Option Value} {base : Heap} (T : TX w K mg) {j : Nat} {sp : Sp}
    (pure_ : PureOk 2 sp (t_law_draw K w ) 7) : Cal P w K mg base (j + 1) "_law_draw" sp := by
  obtain ⟨fd, F⟩ := T.d_law_draw
  refine cal_mk F T.f_law_draw sc_law_draw (F.bindsN fun _ _ _ _ _ _ us hl => match us, hl with | [_, _], _ => rfl) pure_.len fun cdv A outer s H vs Q E hr h => ?_
  refine ⟨t_law_draw K w , PSs.nox ?_, pure_.run vs H Q E h⟩
  exact (pss_cons (ps_if (pt_cmpR op_gt (pe_ixG (hu_of hr) (pv 0) pe_int (fun _ _ => rfl)) pe_int (nomark _)) (pss_cons (ps_set (i := 2) sc_law_draw.nd rfl (Or.inl rfl) (pe_op op_mod (pe_ixG (hu_of hr) (pv 0) pe_int (fun _ _ => rfl)) (pv 1)))
  (pss_cons (ps_asg (pe_op op_fdivW (pe_ixG (hu_of hr) (pv 0) pe_int (fun _ _ => rfl)) (pv 1)) (pg_sub (pv 0) pe_int (set_any (hu_of hr))))
  (pss_one (ps_ret (pv 2))))) pss_nil)
  (pss_cons (ps_set (i := 3) sc_law_draw.nd rfl (Or.inl rfl) (pe_ixG (hu_of hr) (pv 0) pe_int (fun _ _ => rfl)))
  (pss_cons (ps_asg (pe_op op_addG (pv 3) pe_int) (pg_sub (pv 0) pe_int (set_any (hu_of hr))))
  (pss_cons (ps_set (i := 4) sc_law_draw.nd rfl (Or.inl rfl) (pe_ixG (hu_of hr) (pe_op op_addG (pe_ixG (hu_of hr) (pv 0) pe_int (fun _ _ => rfl)) (pe_lstN (pa_cons pe_int pa_nil))) (pe_op op_mod (pv 3) (pe_callB (call_max2 rfl) (by rfl) T.n_max (by decide +kernel) (pa_cons pe_int (pa_cons (pe_callB call_lenG (by rfl) T.n_len (by decide +kernel) (pa_cons (pe_ixG (hu_of hr) (pv 0) pe_int (fun _ _ => rfl)) pa_nil)) pa_nil)))) (fun _ _ => rfl)))
  (pss_cons (ps_if (PW.pt (pw_and (pt_cmpR op_lt (pv 3) (pe_callB call_lenG (by rfl) T.n_len (by decide +kernel) (pa_cons (pe_ixG (hu_of hr) (pv 0) pe_int (fun _ _ => rfl)) pa_nil)) (nomark _)) (pw_and1 (pt_cmpR op_ge (pe_callB call_abs (by rfl) T.n_abs (by decide +kernel) (pa_cons (pv 4) pa_nil)) (pe_op op_pow pe_int pe_int) (nomark _))))) (pss_cons (ps_asg (pe_op op_fdivW (pe_callB call_abs (by rfl) T.n_abs (by decide +kernel) (pa_cons (pv 4) pa_nil)) (pv 1)) (pg_sub (pv 0) pe_int (set_any (hu_of hr))))
  (pss_one (ps_ret (pe_op op_mod (pe_callB call_abs (by rfl) T.n_abs (by decide +kernel) (pa_cons (pv 4) pa_nil)) (pv 1))))) pss_nil)
  (pss_cons (ps_set (i := 5) sc_law_draw.nd rfl (Or.inl rfl) (pe_ixG (hu_of hr) (pe_lstN (pa_cons pe_int (pa_cons pe_int (pa_cons pe_int (pa_cons pe_int (pa_cons pe_int (pa_cons pe_int (pa_cons pe_int pa_nil)))))))) (pe_op op_mod (pv 3) pe_int) (fun _ _ => rfl)))
  (pss_cons (ps_set (i := 6) sc_law_draw.nd rfl (Or.inl rfl) (pe_op op_mod (pe_op op_mulG (pe_op op_addG (pe_op op_addG (pe_op op_mod (pv 4) pe_int) (pe_op op_mulG pe_int (pv 3))) pe_int) pe_int) (pv 5)))
  (pss_cons (ps_set (i := 6) sc_law_draw.nd rfl (Or.inl rfl) (pe_op op_mod (pe_op op_addG (pe_op op_addG (pe_op op_mulG (pv 6) (pv 6)) (pe_op op_mulG pe_int (pv 6))) (pv 3)) pe_int))
  (pss_cons (ps_set (i := 6) sc_law_draw.nd rfl (Or.inl rfl) (pe_op op_mod (pe_op op_mulG (pv 6) pe_int) pe_int))
  (pss_cons (ps_if (pt_cmpR op_gt (pv 1) (pe_op op_pow pe_int pe_int) (nomark _)) (pss_one (ps_set (i := 6) sc_law_draw.nd rfl (Or.inl rfl) (pe_op op_pow (pv 6) pe_int))) pss_nil)
  (pss_one (ps_ret (pe_op op_mod (pe_op op_fdivW (pv 6) pe_int) (pv 1))))))))))))))
abbrev st_law_names : Stmt := topS 33
theorem sc_law_names : FnScope ["_law_pen_here", "_law_many_here", "_law_letters", "_law_word", "_law_k", "_law_at", "_law_first", "_law_by"] ["_law_pen_here", "_law_many_here"] (defScope st_law_names) := ⟨rfl, rfl, rfl, by decide +kernel, rfl, by decide +kernel, by decide +kernel⟩
theorem mk_law_names {P : Program} {w : World} {K : PySem.W.Frag} {mg : Str → Option Value} {base : Heap} (T : TX w K mg) {j : Nat} {sp : Sp} {s_law_draw : Sp} (c_law_draw : Cal P w K mg base j "_law_draw" s_law_draw)
    (pure_ : PureOk 2 sp (t_law_names K w s_law_draw) 8) : Cal P w K mg base (j + 1) "_law_names" sp := by
  obtain ⟨fd, F⟩ := T.d_law_names
  refine cal_mk F T.f_law_names sc_law_names (F.bindsN fun _ _ _ _ _ _ us hl => match us, hl with | [_, _], _ => rfl) pure_.len fun cdv A outer s H vs Q E hr h => ?_
  refine ⟨t_law_names K w s_law_draw, PSs.nox ?_, pure_.run vs H Q E h⟩
  exact (pss_cons (ps_set (i := 2) sc_law_names.nd rfl (Or.inr rfl) pe_str)
  (pss_cons (ps_set (i := 3) sc_law_names.nd rfl (Or.inr rfl) (pe_join pe_str (pe_lc (own := [("_law_k", 4)]) (g := (gName 4)) (tt := tYes) rfl sc_law_names.nd (pi_range1 (by rfl) T.n_range (pa_cons (pe_op op_addG pe_int (pe_cal c_law_draw hr rfl (pa_cons (pv 0) (pa_cons pe_int pa_nil)))) pa_nil)) (blkOk_by (by kernel_rfl)) (fun _ _ _ _ _ => (pg_name (i := 4) sc_law_names.nd rfl (by first | exact Or.inl rfl | exact Or.inr rfl))) (fun _ _ _ _ _ => pts_nil) (fun _ _ _ _ _ => (pe_ixG (hu_of hr) (pv 2) (pe_cal c_law_draw hr rfl (pa_cons (pv 0) (pa_cons pe_int pa_nil))) (fun _ _ => rfl))))))
  (pss_cons (ps_set (i := 5) sc_law_names.nd rfl (Or.inr rfl) (pe_cal c_law_draw hr rfl (pa_cons (pv 0) (pa_cons (pe_callB call_lenG (by rfl) T.n_len (by decide +kernel) (pa_cons (pv 3) pa_nil)) pa_nil))))
  (pss_cons (ps_set (i := 6) sc_law_names.nd rfl (Or.inr rfl) (pe_cal c_law_draw hr rfl (pa_cons (pv 0) (pa_cons pe_int pa_nil))))
  (pss_cons (ps_set (i := 7) sc_law_names.nd rfl (Or.inr rfl) (pe_ixG (hu_of hr) (pe_lstN (pa_cons pe_int (pa_cons pe_int (pa_cons pe_int (pa_cons pe_int (pa_cons pe_int (pa_cons pe_int pa_nil))))))) (pe_cal c_law_draw hr rfl (pa_cons (pv 0) (pa_cons pe_int pa_nil))) (fun _ _ => rfl)))
  (pss_one (ps_ret (pe_lc (own := [("_law_k", 4)]) (g := (gName 4)) (tt := tYes) rfl sc_law_names.nd (pi_range1 (by rfl) T.n_range (pa_cons (pv 1) pa_nil)) (blkOk_by (by kernel_rfl)) (fun _ _ _ _ _ => (pg_name (i := 4) sc_law_names.nd rfl (by first | exact Or.inl rfl | exact Or.inr rfl))) (fun _ _ _ _ _ => pts_nil) (fun _ _ _ _ _ => (pe_op op_addG (pe_op op_addG (pe_slice sl_any (pv 3) po_none (po_some (pv 5))) (pe_ixG (hu_of hr) (pv 2) (pe_op op_mod (pe_op op_addG (pv 6) (pe_op op_mulG (pv 7) (pv 4))) pe_int) (fun _ _ => rfl))) (pe_slice sl_any (pv 3) (po_some (pe_op op_addG (pv 5) pe_int)) po_none)))))))))))
abbrev st_law_number : Stmt := topS 34
theorem sc_law_number : FnScope ["_law_pen_here", "_law_way"] ["_law_pen_here"] (defScope st_law_number) := ⟨rfl, rfl, rfl, by decide +kernel, rfl, by decide +kernel, by decide +kernel⟩
theorem mk_law_number {P : Program} {w : World} {K : PySem.W.Frag} {mg : Str → Option Value} {base : Heap} (T : TX w K mg) {j : Nat} {sp : Sp} {s_law_draw : Sp} (c_law_draw : Cal P w K mg base j "_law_draw" s_law_draw)
    (pure_ : PureOk 1 sp (t_law_number K w s_law_draw) 2) : Cal P w K mg base (j + 1) "_law_number" sp := by
  obtain ⟨fd, F⟩ := T.d_law_number
  refine cal_mk F T.f_law_number sc_law_number (F.bindsN fun _ _ _ _ _ _ us hl => match us, hl with | [_], _ => rfl) pure_.len fun cdv A outer s H vs Q E hr h => ?_
  refine ⟨t_law_number K w s_law_draw, PSs.nox ?_, pure_.run vs H Q E h⟩
  exact (pss_cons (ps_set (i := 1) sc_law_number.nd rfl (Or.inl rfl) (pe_cal c_law_draw hr rfl (pa_cons (pv 0) (pa_cons pe_int pa_nil))))
  (pss_cons (ps_if (pt_cmpR (op_eqG (hu2_of hr)) (pv 1) pe_int (nomark _)) (pss_one (ps_ret (pe_op op_addG (pe_op op_sub (pe_cal c_law_draw hr rfl (pa_cons (pv 0) (pa_cons (pe_op op_sub (pe_op op_mulG pe_int (pe_op op_pow pe_int pe_int)) pe_int) pa_nil))) (pe_op op_pow pe_int pe_int)) pe_int))) pss_nil)
  (pss_cons (ps_if (pt_cmpR (op_eqG (hu2_of hr)) (pv 1) pe_int (nomark _)) (pss_one (ps_ret (pe_op op_sub (pe_cal c_law_draw hr rfl (pa_cons (pv 0) (pa_cons (pe_op op_mulG pe_int (pe_op op_pow pe_int pe_int)) pa_nil))) (pe_op op_pow pe_int pe_int)))) pss_nil)
  (pss_one (ps_ret (pe_op op_sub (pe_cal c_law_draw hr rfl (pa_cons (pv 0) (pa_cons pe_int pa_nil))) (pe_ixG (hu_of hr) (pe_lstN (pa_cons pe_int (pa_cons pe_int (pa_cons pe_int (pa_cons pe_int (pa_cons pe_int (pa_cons pe_int (pa_cons pe_int pa_nil)))))))) (pv 1) (fun _ _ => rfl))))))))
abbrev st_law_leaf : Stmt := topS 35
theorem sc_law_leaf : FnScope ["_law_pen_here", "_law_world", "_law_scope", "_law_want", "_law_way"] ["_law_pen_here", "_law_world", "_law_scope", "_law_want"] (defScope st_law_leaf) := ⟨rfl, rfl, rfl, by decide +kernel, rfl, by decide +kernel, by decide +kernel⟩
theorem mk_law_leaf {P : Program} {w : World} {K : PySem.W.Frag} {mg : Str → Option Value} {base : Heap} (T : TX w K mg) {j : Nat} {sp : Sp} {s_law_draw s_law_number : Sp} (c_law_draw : Cal P w K mg base j "_law_draw" s_law_draw) (c_law_number : Cal P w K mg base j "_law_number" s_law_number)
    (pure_ : PureOk 4 sp (t_law_leaf K w s_law_draw s_law_number) 5) : Cal P w K mg base (j + 1) "_law_leaf" sp := by
  obtain ⟨fd, F⟩ := T.d_law_leaf
  refine cal_mk F T.f_law_leaf sc_law_leaf (F.bindsN fun _ _ _ _ _ _ us hl => match us, hl with | [_, _, _, _], _ => rfl) pure_.len fun cdv A outer s H vs Q E hr h => ?_
  refine ⟨t_law_leaf K w s_law_draw s_law_number, PSs.nox ?_, pure_.run vs H Q E h⟩
  exact (pss_cons (ps_set (i := 4) sc_law_leaf.nd rfl (Or.inl rfl) (pe_cal c_law_draw hr rfl (pa_cons (pv 0) (pa_cons pe_int pa_nil))))
  (pss_cons (ps_if (PW.pt (pw_and (pt_cmpR (op_neG (hu2_of hr)) (pv 2) (pe_lstN pa_nil) (nomark _)) (pw_and1 (pt_cmpR op_gt (pv 4) pe_int (nomark _))))) (pss_one (ps_ret (pe_tupN (pa_cons pe_str (pa_cons (pe_ixG (hu_of hr) (pv 2) (pe_cal c_law_draw hr rfl (pa_cons (pv 0) (pa_cons (pe_callB call_lenG (by rfl) T.n_len (by decide +kernel) (pa_cons (pv 2) pa_nil)) pa_nil))) (fun _ _ => rfl)) pa_nil))))) pss_nil)
  (pss_cons (ps_if (PW.pt (pw_and (pt_cmpR (op_neG (hu2_of hr)) (pv 1) (pe_lstN pa_nil) (nomark _)) (pw_and (pt_cmpR (op_eqG (hu2_of hr)) (pv 3) pe_str (nomark _)) (pw_and1 (pt_cmpR (op_eqG (hu2_of hr)) (pv 4) pe_int (nomark _)))))) (pss_one (ps_ret (pe_tupN (pa_cons pe_str (pa_cons (pe_ixG (hu_of hr) (pe_ixG (hu_of hr) (pv 1) (pe_cal c_law_draw hr rfl (pa_cons (pv 0) (pa_cons (pe_callB call_lenG (by rfl) T.n_len (by decide +kernel) (pa_cons (pv 1) pa_nil)) pa_nil))) (fun _ _ => rfl)) pe_int (fun _ _ => rfl)) pa_nil))))) pss_nil)
  (pss_one (ps_ret (pe_tupN (pa_cons pe_str (pa_cons (pe_cal c_law_number hr rfl (pa_cons (pv 0) pa_nil)) pa_nil))))))))
abbrev st_law_fits : Stmt := topS 36
theorem sc_law_fits : FnScope ["_law_room", "_law_many_here"] ["_law_room", "_law_many_here"] (defScope st_law_fits) := ⟨rfl, rfl, rfl, by decide +kernel, rfl, by decide +kernel, by decide +kernel⟩
theorem mk_law_fits {P : Program} {w : World} {K : PySem.W.Frag} {mg : Str → Option Value} {base : Heap} (T : TX w K mg) {j : Nat} {sp : Sp}
    (pure_ : PureOk 2 sp (t_law_fits K w ) 2) : Cal P w K mg base (j + 1) "_law_fits" sp := by
  obtain ⟨fd, F⟩ := T.d_law_fits
  refine cal_mk F T.f_law_fits sc_law_fits (F.bindsN fun _ _ _ _ _ _ us hl => match us, hl with | [_, _], _ => rfl) pure_.len fun cdv A outer s H vs Q E hr h => ?_
  refine ⟨t_law_fits K w , PSs.nox ?_, pure_.run vs H Q E h⟩
  exact (pss_cons (ps_if (pt_cmpR op_lt (pe_ixG (hu_of hr) (pe_ixG (hu_of hr) (pv 0) pe_int (fun _ _ => rfl)) pe_int (fun _ _ => rfl)) (pv 1) (nomark _)) (pss_one (ps_ret pe_bl)) pss_nil)
  (pss_cons (ps_asg (pe_op op_sub (pe_ixG (hu_of hr) (pe_ixG (hu_of hr) (pv 0) pe_int (fun _ _ => rfl)) pe_int (fun _ _ => rfl)) (pv 1)) (pg_sub (pe_ixG (hu_of hr) (pv 0) pe_int (fun _ _ => rfl)) pe_int (set_any (hu_of hr))))
  (pss_one (ps_ret pe_bl))))
abbrev st_law_call : Stmt := topS 37
theorem sc_law_call : FnScope ["_law_pen_here", "_law_world", "_law_scope", "_law_room", "_law_want", "_law_name", "_law_wanted", "_law_many_here", "_law_part_here", "_law_inner_here", "_law_k"] ["_law_pen_here", "_law_world", "_law_scope", "_law_room", "_law_want"] (defScope st_law_call) := ⟨rfl, rfl, rfl, by decide +kernel, rfl, by decide +kernel, by decide +kernel⟩
theorem mk_law_call {P : Program} {w : World} {K : PySem.W.Frag} {mg : Str → Option Value} {base : Heap} (T : TX w K mg) {j : Nat} {sp : Sp} {s_law_draw s_law_fits s_law_leaf s_law_part : Sp} (c_law_draw : Cal P w K mg base j "_law_draw" s_law_draw) (c_law_fits : Cal P w K mg base j "_law_fits" s_law_fits) (c_law_leaf : Cal P w K mg base j "_law_leaf" s_law_leaf) (c_law_part : Cal P w K mg base j "_law_part" s_law_part)
    (pure_ : PureOk 5 sp (t_law_call K w s_law_draw s_law_fits s_law_leaf s_law_part) 11) : Cal P w K mg base (j + 1) "_law_call" sp := by
  obtain ⟨fd, F⟩ := T.d_law_call
  refine cal_mk F T.f_law_call sc_law_call (F.bindsN fun _ _ _ _ _ _ us hl => match us, hl with | [_, _, _, _, _], _ => rfl) pure_.len fun cdv A outer s H vs Q E hr h => ?_
  refine ⟨t_law_call K w s_law_draw s_law_fits s_law_leaf s_law_part, PSs.nox ?_, pure_.run vs H Q E h⟩
  exact (pss_cons (ps_asg (pe_ixG (hu_of hr) (pv 1) (pe_cal c_law_draw hr rfl (pa_cons (pv 0) (pa_cons (pe_callB call_lenG (by rfl) T.n_len (by decide +kernel) (pa_cons (pv 1) pa_nil)) pa_nil))) (fun _ _ => rfl)) (pg_tup rfl (pgs_cons (pg_name (i := 5) sc_law_call.nd rfl (by first | exact Or.inl rfl | exact Or.inr rfl)) (pgs_cons (pg_name (i := 6) sc_law_call.nd rfl (by first | exact Or.inl rfl | exact Or.inr rfl)) pgs_nil))))
  (pss_cons (ps_set (i := 7) sc_law_call.nd rfl (Or.inl rfl) (pe_callB (call_max2 rfl) (by rfl) T.n_max (by decide +kernel) (pa_cons pe_int (pa_cons (pe_op op_addG (pv 6) (pe_ixG (hu_of hr) (pe_lstN (pa_cons pe_int (pa_cons pe_int (pa_cons pe_int (pa_cons pe_int (pa_cons pe_int (pa_cons pe_int (pa_cons pe_int (pa_cons (pe_un un_neg pe_int) pa_nil))))))))) (pe_cal c_law_draw hr rfl (pa_cons (pv 0) (pa_cons pe_int pa_nil))) (fun _ _ => rfl))) pa_nil))))
  (pss_cons (ps_if (pt_not (pt_tru (pe_cal c_law_fits hr rfl (pa_cons (pv 3) (pa_cons (pe_op op_mulG pe_int (pv 7)) pa_nil))) (by intro _; rfl))) (pss_one (ps_ret (pe_cal c_law_leaf hr rfl (pa_cons (pv 0) (pa_cons (pv 1) (pa_cons (pv 2) (pa_cons (pv 4) pa_nil))))))) pss_nil)
  (pss_cons (ps_set (i := 8) sc_law_call.nd rfl (Or.inl rfl) (pe_tupN (pa_cons pe_str (pa_cons (pv 5) pa_nil))))
  (pss_cons (ps_set (i := 9) sc_law_call.nd rfl (Or.inl rfl) (pe_lstN (pa_cons (pe_op op_sub (pe_ixG (hu_of hr) (pv 3) pe_int (fun _ _ => rfl)) (pv 7)) (pa_cons (pe_ixG (hu_of hr) (pv 3) pe_int (fun _ _ => rfl)) (pa_cons (pe_ixG (hu_of hr) (pv 3) pe_int (fun _ _ => rfl)) pa_nil)))))
  (pss_cons (ps_for PassesOwn.never rfl (pi_range1 (by rfl) T.n_range (pa_cons (pv 7) pa_nil)) (pg_name (i := 10) sc_law_call.nd rfl (by first | exact Or.inl rfl | exact Or.inr rfl)) (pss_one (ps_set (i := 8) sc_law_call.nd rfl (Or.inl rfl) (pe_tupN (pa_cons pe_str (pa_cons (pv 8) (pa_cons (pe_cal c_law_part hr rfl (pa_cons (pv 0) (pa_cons (pv 1) (pa_cons (pv 2) (pa_cons (pv 9) (pa_cons (pe_ixG (hu_of hr) (pe_lstN (pa_cons pe_str (pa_cons pe_str pa_nil))) (pe_op op_fdivW (pe_cal c_law_draw hr rfl (pa_cons (pv 0) (pa_cons pe_int pa_nil))) pe_int) (fun _ _ => rfl)) pa_nil)))))) pa_nil)))))))
  (pss_one (ps_ret (pv 8)))))))))
abbrev st_law_let : Stmt := topS 38
theorem sc_law_let : FnScope ["_law_pen_here", "_law_world", "_law_scope", "_law_room", "_law_want", "_law_many_here", "_law_names_here", "_law_k", "_law_rows", "_law_name", "_law_kind"] ["_law_pen_here", "_law_world", "_law_scope", "_law_room", "_law_want"] (defScope st_law_let) := ⟨rfl, rfl, rfl, by decide +kernel, rfl, by decide +kernel, by decide +kernel⟩
theorem mk_law_let {P : Program} {w : World} {K : PySem.W.Frag} {mg : Str → Option Value} {base : Heap} (T : TX w K mg) {j : Nat} {sp : Sp} {s_law_draw s_law_fits s_law_leaf s_law_part : Sp} (c_law_draw : Cal P w K mg base j "_law_draw" s_law_draw) (c_law_fits : Cal P w K mg base j "_law_fits" s_law_fits) (c_law_leaf : Cal P w K mg base j "_law_leaf" s_law_leaf) (c_law_part : Cal P w K mg base j "_law_part" s_law_part)
    (pure_ : PureOk 5 sp (t_law_let K w s_law_draw s_law_fits s_law_leaf s_law_part) 11) : Cal P w K mg base (j + 1) "_law_let" sp := by
  obtain ⟨fd, F⟩ := T.d_law_let
  refine cal_mk F T.f_law_let sc_law_let (F.bindsN fun _ _ _ _ _ _ us hl => match us, hl with | [_, _, _, _, _], _ => rfl) pure_.len fun cdv A outer s H vs Q E hr h => ?_
  refine ⟨t_law_let K w s_law_draw s_law_fits s_law_leaf s_law_part, PSs.nox ?_, pure_.run vs H Q E h⟩
  exact (pss_cons (ps_set (i := 5) sc_law_let.nd rfl (Or.inl rfl) (pe_ixG (hu_of hr) (pe_lstN (pa_cons pe_int (pa_cons pe_int (pa_cons pe_int (pa_cons pe_int (pa_cons pe_int (pa_cons pe_int (pa_cons pe_int pa_nil)))))))) (pe_cal c_law_draw hr rfl (pa_cons (pv 0) (pa_cons pe_int pa_nil))) (fun _ _ => rfl)))
  (pss_cons (ps_if (PW.pt (pw_or (pt_cmpR op_lt (pe_callB call_lenG (by rfl) T.n_len (by decide +kernel) (pa_cons (pe_ixG (hu_of hr) (pv 3) pe_int (fun _ _ => rfl)) pa_nil)) (pv 5) (nomark _)) (pw_or1 (pt_not (pt_tru (pe_cal c_law_fits hr rfl (pa_cons (pv 3) (pa_cons (pe_op op_addG (pv 5) pe_int) pa_nil))) (by intro _; rfl)))))) (pss_one (ps_ret (pe_cal c_law_leaf hr rfl (pa_cons (pv 0) (pa_cons (pv 1) (pa_cons (pv 2) (pa_cons (pv 4) pa_nil))))))) pss_nil)
  (pss_cons (ps_setLc (i := 6) (own := [("_law_k", 7)]) (g := (gName 7)) (tt := tYes) rfl sc_law_let.nd rfl rfl (sw_true rfl rfl rfl (by decide +kernel)) (pi_range1 (by rfl) T.n_range (pa_cons (pv 5) pa_nil)) (blkOk_by (by kernel_rfl)) (fun _ _ _ _ _ => (pg_name (i := 7) sc_law_let.nd rfl (by first | exact Or.inl rfl | exact Or.inr rfl))) (fun _ _ _ _ _ => pts_nil) (fun _ _ _ _ _ => (pe_bm0 PySem.F.plainAttrs_list PySem.F.slot_list_pop PySem.F.type_list_pop mt_popG (pe_ixG (hu_of hr) (pv 3) pe_int (fun _ _ => rfl)))))
  (pss_cons (ps_set (i := 8) sc_law_let.nd rfl (Or.inl rfl) (pe_lstN pa_nil))
  (pss_cons (ps_for PassesOwn.never rfl (pi_seq (pv 6)) (pg_name (i := 9) sc_law_let.nd rfl (by first | exact Or.inl rfl | exact Or.inr rfl)) (pss_cons (ps_set (i := 10) sc_law_let.nd rfl (Or.inl rfl) (pe_ixG (hu_of hr) (pe_lstN (pa_cons pe_str (pa_cons pe_str (pa_cons pe_str pa_nil)))) (pe_cal c_law_draw hr rfl (pa_cons (pv 0) (pa_cons pe_int pa_nil))) (fun _ _ => rfl)))
  (pss_one (ps_expr (pe_bm PySem.F.plainAttrs_list PySem.F.slot_list_append PySem.F.type_list_append mt_appendG (pv 8) (pa_cons (pe_tupN (pa_cons (pv 9) (pa_cons (pe_cal c_law_part hr rfl (pa_cons (pv 0) (pa_cons (pv 1) (pa_cons (pe_op op_addG (pv 2) (pv 6)) (pa_cons (pv 3) (pa_cons (pv 10) pa_nil)))))) pa_nil))) pa_nil))))))
  (pss_one (ps_ret (pe_tupN (pa_cons pe_str (pa_cons (pe_callTy call_tupleG (by rfl) T.n_tuple (by decide +kernel) (pa_cons (pv 8) pa_nil)) (pa_cons (pe_cal c_law_part hr rfl (pa_cons (pv 0) (pa_cons (pv 1) (pa_cons (pe_op op_addG (pv 2) (pv 6)) (pa_cons (pv 3) (pa_cons (pv 4) pa_nil)))))) pa_nil)))))))))))
abbrev st_law_part : Stmt := topS 39
theorem sc_law_part : FnScope ["_law_pen_here", "_law_world", "_law_scope", "_law_room", "_law_want", "_law_words", "_law_word", "_law_inner_here", "_law_one", "_law_other"] ["_law_pen_here", "_law_world", "_law_scope", "_law_room", "_law_want"] (defScope st_law_part) := ⟨rfl, rfl, rfl, by decide +kernel, rfl, by decide +kernel, by decide +kernel⟩
theorem mk_law_part {P : Program} {w : World} {K : PySem.W.Frag} {mg : Str → Option Value} {base : Heap} (T : TX w K mg) {j : Nat} {sp : Sp} {s_law_draw s_law_leaf s_law_call s_law_let s_law_fits s_law_part : Sp} (c_law_draw : Cal P w K mg base j "_law_draw" s_law_draw) (c_law_leaf : Cal P w K mg base j "_law_leaf" s_law_leaf) (c_law_call : Cal P w K mg base j "_law_call" s_law_call) (c_law_let : Cal P w K mg base j "_law_let" s_law_let) (c_law_fits : Cal P w K mg base j "_law_fits" s_law_fits) (c_law_part : Cal P w K mg base j "_law_part" s_law_part)
    (pure_ : PureOk 5 sp (t_law_part K w s_law_draw s_law_leaf s_law_call s_law_let s_law_fits s_law_part) 10) : Cal P w K mg base (j + 1) "_law_part" sp := by
  obtain ⟨fd, F⟩ := T.d_law_part
  refine cal_mk F T.f_law_part sc_law_part (F.bindsN fun _ _ _ _ _ _ us hl => match us, hl with | [_, _, _, _, _], _ => rfl) pure_.len fun cdv A outer s H vs Q E hr h => ?_
  refine ⟨t_law_part K w s_law_draw s_law_leaf s_law_call s_law_let s_law_fits s_law_part, PSs.nox ?_, pure_.run vs H Q E h⟩
  exact (pss_cons (ps_set (i := 5) sc_law_part.nd rfl (Or.inl rfl) (pe_dispN (pps_cons (pe_cl pe_str) (pe_cl pe_str) pps_nil) (by rfl) (by rfl) (fun z => by cases z) (by decide)))
  (pss_cons (ps_asg pe_str (pg_sub (pv 5) pe_str (set_any (hu_of hr))))
  (pss_cons (ps_asg pe_str (pg_sub (pv 5) pe_str (set_any (hu_of hr))))
  (pss_cons (ps_set (i := 6) sc_law_part.nd rfl (Or.inl rfl) (pe_ixG (hu_of hr) (pe_splitG (pe_ixG (hu_of hr) (pv 5) (pv 4) (fun _ _ => rfl)) pe_str) (pe_cal c_law_draw hr rfl (pa_cons (pv 0) (pa_cons pe_int pa_nil))) (fun _ _ => rfl)))
  (pss_cons (ps_set (i := 7) sc_law_part.nd rfl (Or.inl rfl) (pe_lstN (pa_cons (pe_op op_sub (pe_ixG (hu_of hr) (pv 3) pe_int (fun _ _ => rfl)) pe_int) (pa_cons (pe_ixG (hu_of hr) (pv 3) pe_int (fun _ _ => rfl)) (pa_cons (pe_ixG (hu_of hr) (pv 3) pe_int (fun _ _ => rfl)) pa_nil)))))
  (pss_cons (ps_if (PW.pt (pw_or (pt_cmpR op_lt (pe_ixG (hu_of hr) (pv 3) pe_int (fun _ _ => rfl)) pe_int (nomark _)) (pw_or (pt_cmpR (op_eqG (hu2_of hr)) (pv 6) pe_str (nomark _)) (pw_or1 (PW.pt (pw_and (pt_cmpR (op_eqG (hu2_of hr)) (pv 6) pe_str (nomark _)) (pw_and1 (PW.pt (pw_or (pt_cmpR (op_eqG (hu2_of hr)) (pv 1) (pe_lstN pa_nil) (nomark _)) (pw_or1 (pt_cmpR op_lt (pe_ixG (hu_of hr) (pv 3) pe_int (fun _ _ => rfl)) pe_int (nomark _)))))))))))) (pss_one (ps_ret (pe_cal c_law_leaf hr rfl (pa_cons (pv 0) (pa_cons (pv 1) (pa_cons (pv 2) (pa_cons (pv 4) pa_nil))))))) pss_nil)
  (pss_cons (ps_if (pt_cmpR (op_eqG (hu2_of hr)) (pv 6) pe_str (nomark _)) (pss_one (ps_ret (pe_cal c_law_call hr rfl (pa_cons (pv 0) (pa_cons (pv 1) (pa_cons (pv 2) (pa_cons (pv 7) (pa_cons (pv 4) pa_nil)))))))) pss_nil)
  (pss_cons (ps_if (pt_cmpR (op_eqG (hu2_of hr)) (pv 6) pe_str (nomark _)) (pss_one (ps_ret (pe_cal c_law_let hr rfl (pa_cons (pv 0) (pa_cons (pv 1) (pa_cons (pv 2) (pa_cons (pv 7) (pa_cons (pv 4) pa_nil)))))))) pss_nil)
  (pss_cons (ps_if (pt_not (pt_tru (pe_cal c_law_fits hr rfl (pa_cons (pv 3) (pa_cons (pe_ixG (hu_of hr) (pe_dispN (pps_cons (pe_cl pe_str) (pe_cl pe_int) (pps_cons (pe_cl pe_str) (pe_cl pe_int) (pps_cons (pe_cl pe_str) (pe_cl pe_int) (pps_cons (pe_cl pe_str) (pe_cl pe_int) pps_nil)))) (by rfl) (by rfl) (fun z => by cases z) (by decide)) (pv 6) (fun _ _ => rfl)) pa_nil))) (by intro _; rfl))) (pss_one (ps_ret (pe_cal c_law_leaf hr rfl (pa_cons (pv 0) (pa_cons (pv 1) (pa_cons (pv 2) (pa_cons (pv 4) pa_nil))))))) pss_nil)
  (pss_cons (ps_if (pt_cmpR (op_eqG (hu2_of hr)) (pv 6) pe_str (nomark _)) (pss_one (ps_ret (pe_tupN (pa_cons (pe_ixG (hu_of hr) (pe_lstN (pa_cons pe_str (pa_cons pe_str pa_nil))) (pe_cal c_law_draw hr rfl (pa_cons (pv 0) (pa_cons pe_int pa_nil))) (fun _ _ => rfl)) (pa_cons (pe_cal c_law_part hr rfl (pa_cons (pv 0) (pa_cons (pv 1) (pa_cons (pv 2) (pa_cons (pv 7) (pa_cons pe_str pa_nil)))))) pa_nil))))) pss_nil)
  (pss_cons (ps_set (i := 8) sc_law_part.nd rfl (Or.inl rfl) (pe_cal c_law_part hr rfl (pa_cons (pv 0) (pa_cons (pv 1) (pa_cons (pv 2) (pa_cons (pv 7) (pa_cons (pe_ixG (hu_of hr) (pe_lstN (pa_cons pe_str (pa_cons pe_str pa_nil))) (pe_callTy call_int1 (by rfl) T.n_int (by decide +kernel) (pa_cons (pe_cmpR (op_eqG (hu2_of hr)) (pv 6) pe_str (nomark _)) pa_nil)) (fun _ _ => rfl)) pa_nil)))))))
  (pss_cons (ps_set (i := 9) sc_law_part.nd rfl (Or.inl rfl) (pe_cal c_law_part hr rfl (pa_cons (pv 0) (pa_cons (pv 1) (pa_cons (pv 2) (pa_cons (pv 7) (pa_cons (pe_ixG (hu_of hr) (pe_dispN (pps_cons (pe_cl pe_str) (pe_cl pe_str) (pps_cons (pe_cl pe_str) (pe_cl (pv 4)) (pps_cons (pe_cl pe_str) (pe_cl pe_str) pps_nil))) (by rfl) (by rfl) (fun z => by cases z) (by decide)) (pv 6) (fun _ _ => rfl)) pa_nil)))))))
  (pss_cons (ps_if (pt_cmpR (op_eqG (hu2_of hr)) (pv 6) pe_str (nomark _)) (pss_one (ps_ret (pe_tupN (pa_cons pe_str (pa_cons (pv 8) (pa_cons (pv 9) pa_nil)))))) pss_nil)
  (pss_cons (ps_if (pt_cmpR (op_eqG (hu2_of hr)) (pv 6) pe_str (nomark _)) (pss_one (ps_ret (pe_tupN (pa_cons pe_str (pa_cons (pv 8) (pa_cons (pv 9) (pa_cons (pe_cal c_law_part hr rfl (pa_cons (pv 0) (pa_cons (pv 1) (pa_cons (pv 2) (pa_cons (pv 7) (pa_cons (pv 4) pa_nil)))))) pa_nil))))))) pss_nil)
  (pss_one (ps_ret (pe_tupN (pa_cons (pe_ixG (hu_of hr) (pe_lstN (pa_cons pe_str (pa_cons pe_str (pa_cons pe_str (pa_cons pe_str pa_nil))))) (pe_cal c_law_draw hr rfl (pa_cons (pv 0) (pa_cons pe_int pa_nil))) (fun _ _ => rfl)) (pa_cons (pv 8) (pa_cons (pv 9) pa_nil))))))))))))))))))))
abbrev st_law_loop : Stmt := topS 40
theorem sc_law_loop : FnScope ["_law_pen_here", "_law_world", "_law_me", "_law_things", "_law_room", "_law_call_here", "_law_name", "_law_other", "_law_one", "_law_more"] ["_law_pen_here", "_law_world", "_law_me", "_law_things", "_law_room"] (defScope st_law_loop) := ⟨rfl, rfl, rfl, by decide +kernel, rfl, by decide +kernel, by decide +kernel⟩
theorem mk_law_loop {P : Program} {w : World} {K : PySem.W.Frag} {mg : Str → Option Value} {base : Heap} (T : TX w K mg) {j : Nat} {sp : Sp} {s_law_part s_law_draw : Sp} (c_law_part : Cal P w K mg base j "_law_part" s_law_part) (c_law_draw : Cal P w K mg base j "_law_draw" s_law_draw)
    (pure_ : PureOk 5 sp (t_law_loop K w s_law_part s_law_draw) 10) : Cal P w K mg base (j + 1) "_law_loop" sp := by
  obtain ⟨fd, F⟩ := T.d_law_loop
  refine cal_mk F T.f_law_loop sc_law_loop (F.bindsN fun _ _ _ _ _ _ us hl => match us, hl with | [_, _, _, _, _], _ => rfl) pure_.len fun cdv A outer s H vs Q E hr h => ?_
  refine ⟨t_law_loop K w s_law_part s_law_draw, PSs.nox ?_, pure_.run vs H Q E h⟩
  exact (pss_cons (ps_set (i := 5) sc_law_loop.nd rfl (Or.inl rfl) (pe_tupN (pa_cons pe_str (pa_cons (pe_tupN (pa_cons pe_str (pa_cons (pv 2) pa_nil))) (pa_cons (pe_tupN (pa_cons pe_str (pa_cons (pe_tupN (pa_cons pe_str (pa_cons (pe_ixG (hu_of hr) (pv 3) pe_int (fun _ _ => rfl)) pa_nil))) (pa_cons (pe_tupN (pa_cons pe_str (pa_cons pe_int pa_nil))) pa_nil)))) pa_nil)))))
  (pss_cons (ps_for PassesOwn.never rfl (pi_seq (pe_slice sl_any (pv 3) (po_some pe_int) po_none)) (pg_name (i := 6) sc_law_loop.nd rfl (by first | exact Or.inl rfl | exact Or.inr rfl)) (pss_cons (ps_set (i := 7) sc_law_loop.nd rfl (Or.inl rfl) (pe_cal c_law_part hr rfl (pa_cons (pv 0) (pa_cons (pv 1) (pa_cons (pv 3) (pa_cons (pe_lstN (pa_cons pe_int (pa_cons (pe_ixG (hu_of hr) (pv 4) pe_int (fun _ _ => rfl)) (pa_cons (pe_ixG (hu_of hr) (pv 4) pe_int (fun _ _ => rfl)) pa_nil)))) (pa_cons pe_str pa_nil)))))))
  (pss_one (ps_set (i := 5) sc_law_loop.nd rfl (Or.inl rfl) (pe_tupN (pa_cons pe_str (pa_cons (pv 5) (pa_cons (pe_ixG (hu_of hr) (pe_lstN (pa_cons (pe_tupN (pa_cons pe_str (pa_cons (pv 6) pa_nil))) (pa_cons (pv 7) pa_nil))) (pe_cal c_law_draw hr rfl (pa_cons (pv 0) (pa_cons pe_int pa_nil))) (fun _ _ => rfl)) pa_nil))))))))
  (pss_cons (ps_set (i := 8) sc_law_loop.nd rfl (Or.inl rfl) (pe_cal c_law_part hr rfl (pa_cons (pv 0) (pa_cons (pv 1) (pa_cons (pv 3) (pa_cons (pe_lstN (pa_cons pe_int (pa_cons (pe_ixG (hu_of hr) (pv 4) pe_int (fun _ _ => rfl)) (pa_cons (pe_ixG (hu_of hr) (pv 4) pe_int (fun _ _ => rfl)) pa_nil)))) (pa_cons pe_str pa_nil)))))))
  (pss_cons (ps_set (i := 9) sc_law_loop.nd rfl (Or.inl rfl) (pe_ixG (hu_of hr) (pe_lstN (pa_cons (pv 5) (pa_cons (pe_tupN (pa_cons pe_str (pa_cons (pv 8) (pa_cons (pv 5) pa_nil)))) (pa_cons (pe_tupN (pa_cons pe_str (pa_cons (pv 8) (pa_cons (pv 5) pa_nil)))) (pa_cons (pe_tupN (pa_cons pe_str (pa_cons (pv 5) (pa_cons (pv 8) pa_nil)))) pa_nil))))) (pe_cal c_law_draw hr rfl (pa_cons (pv 0) (pa_cons pe_int pa_nil))) (fun _ _ => rfl)))
  (pss_one (ps_ret (pe_tupN (pa_cons pe_str (pa_cons (pe_tupN (pa_cons pe_str (pa_cons (pe_ixG (hu_of hr) (pv 3) pe_int (fun _ _ => rfl)) pa_nil))) (pa_cons (pv 9) (pa_cons (pe_cal c_law_part hr rfl (pa_cons (pv 0) (pa_cons (pv 1) (pa_cons (pv 3) (pa_cons (pe_lstN (pa_cons pe_int (pa_cons (pe_ixG (hu_of hr) (pv 4) pe_int (fun _ _ => rfl)) (pa_cons (pe_ixG (hu_of hr) (pv 4) pe_int (fun _ _ => rfl)) pa_nil)))) (pa_cons pe_str pa_nil)))))) pa_nil)))))))))))
abbrev st_law_body : Stmt := topS 41
theorem sc_law_body : FnScope ["_law_pen_here", "_law_world", "_law_me", "_law_things", "_law_stock", "_law_deep", "_law_left", "_law_part_here", "_law_k"] ["_law_pen_here", "_law_world", "_law_me", "_law_things", "_law_stock"] (defScope st_law_body) := ⟨rfl, rfl, rfl, by decide +kernel, rfl, by decide +kernel, by decide +kernel⟩
theorem mk_law_body {P : Program} {w : World} {K : PySem.W.Frag} {mg : Str → Option Value} {base : Heap} (T : TX w K mg) {j : Nat} {sp : Sp} {s_law_draw s_law_loop s_law_part : Sp} (c_law_draw : Cal P w K mg base j "_law_draw" s_law_draw) (c_law_loop : Cal P w K mg base j "_law_loop" s_law_loop) (c_law_part : Cal P w K mg base j "_law_part" s_law_part)
    (pure_ : PureOk 5 sp (t_law_body K w s_law_draw s_law_loop s_law_part) 9) : Cal P w K mg base (j + 1) "_law_body" sp := by
  obtain ⟨fd, F⟩ := T.d_law_body
  refine cal_mk F T.f_law_body sc_law_body (F.bindsN fun _ _ _ _ _ _ us hl => match us, hl with | [_, _, _, _, _], _ => rfl) pure_.len fun cdv A outer s H vs Q E hr h => ?_
  refine ⟨t_law_body K w s_law_draw s_law_loop s_law_part, PSs.nox ?_, pure_.run vs H Q E h⟩
  exact (pss_cons (ps_set (i := 5) sc_law_body.nd rfl (Or.inl rfl) (pe_ixG (hu_of hr) (pe_lstN (pa_cons pe_int (pa_cons pe_int (pa_cons pe_int (pa_cons pe_int pa_nil))))) (pe_cal c_law_draw hr rfl (pa_cons (pv 0) (pa_cons pe_int pa_nil))) (fun _ _ => rfl)))
  (pss_cons (ps_set (i := 6) sc_law_body.nd rfl (Or.inl rfl) (pe_ixG (hu_of hr) (pe_lstN (pa_cons pe_int (pa_cons pe_int (pa_cons pe_int (pa_cons pe_int (pa_cons pe_int (pa_cons pe_int pa_nil))))))) (pe_cal c_law_draw hr rfl (pa_cons (pv 0) (pa_cons pe_int pa_nil))) (fun _ _ => rfl)))
  (pss_cons (ps_if (PW.pt (pw_and (pt_cmpR (op_neG (hu2_of hr)) (pv 2) pe_str (nomark _)) (pw_and (pt_cmpR (op_neG (hu2_of hr)) (pv 3) (pe_lstN pa_nil) (nomark _)) (pw_and1 (pt_cmpR (op_eqG (hu2_of hr)) (pe_cal c_law_draw hr rfl (pa_cons (pv 0) (pa_cons pe_int pa_nil))) pe_int (nomark _)))))) (pss_one (ps_ret (pe_cal c_law_loop hr rfl (pa_cons (pv 0) (pa_cons (pv 1) (pa_cons (pv 2) (pa_cons (pv 3) (pa_cons (pe_lstN (pa_cons (pv 5) (pa_cons (pe_lstN (pa_cons (pe_callB (call_min2 rfl) (by rfl) T.n_min (by decide +kernel) (pa_cons (pv 6) (pa_cons pe_int pa_nil))) pa_nil)) (pa_cons (pv 4) pa_nil)))) pa_nil)))))))) pss_nil)
  (pss_cons (ps_if (PW.pt (pw_and (pt_cmpR (op_eqG (hu2_of hr)) (pv 2) pe_str (nomark _)) (pw_and (pt_cmpR (op_neG (hu2_of hr)) (pv 1) (pe_lstN pa_nil) (nomark _)) (pw_and1 (pt_cmpR (op_eqG (hu2_of hr)) (pe_cal c_law_draw hr rfl (pa_cons (pv 0) (pa_cons pe_int pa_nil))) pe_int (nomark _)))))) (pss_cons (ps_set (i := 7) sc_law_body.nd rfl (Or.inl rfl) (pe_tupN (pa_cons pe_str (pa_cons (pe_ixG (hu_of hr) (pe_ixG (hu_of hr) (pv 1) pe_int (fun _ _ => rfl)) pe_int (fun _ _ => rfl)) pa_nil))))
  (pss_cons (ps_for PassesOwn.never rfl (pi_range1 (by rfl) T.n_range (pa_cons (pe_ixG (hu_of hr) (pe_ixG (hu_of hr) (pv 1) pe_int (fun _ _ => rfl)) pe_int (fun _ _ => rfl)) pa_nil)) (pg_name (i := 8) sc_law_body.nd rfl (by first | exact Or.inl rfl | exact Or.inr rfl)) (pss_one (ps_set (i := 7) sc_law_body.nd rfl (Or.inl rfl) (pe_tupN (pa_cons pe_str (pa_cons (pv 7) (pa_cons (pe_tupN (pa_cons pe_str (pa_cons (pe_cal c_law_draw hr rfl (pa_cons (pv 0) (pa_cons pe_int pa_nil))) pa_nil))) pa_nil)))))))
  (pss_one (ps_ret (pv 7))))) pss_nil)
  (pss_one (ps_ret (pe_cal c_law_part hr rfl (pa_cons (pv 0) (pa_cons (pv 1) (pa_cons (pv 3) (pa_cons (pe_lstN (pa_cons (pv 5) (pa_cons (pe_lstN (pa_cons (pv 6) pa_nil)) (pa_cons (pv 4) pa_nil)))) (pa_cons pe_str pa_nil))))))))))))
abbrev st_law_program : Stmt := topS 42
theorem sc_law_program : FnScope ["_law_pen_here", "_law_names_here", "_law_world", "_law_name", "_law_functions", "_law_wanted", "_law_stock", "_law_things"] ["_law_pen_here"] (defScope st_law_program) := ⟨rfl, rfl, rfl, by decide +kernel, rfl, by decide +kernel, by decide +kernel⟩
theorem mk_law_program {P : Program} {w : World} {K : PySem.W.Frag} {mg : Str → Option Value} {base : Heap} (T : TX w K mg) {j : Nat} {sp : Sp} {s_law_names s_law_draw s_law_body : Sp} (c_law_names : Cal P w K mg base j "_law_names" s_law_names) (c_law_draw : Cal P w K mg base j "_law_draw" s_law_draw) (c_law_body : Cal P w K mg base j "_law_body" s_law_body)
    (pure_ : PureOk 1 sp (t_law_program K w s_law_names s_law_draw s_law_body) 8) : Cal P w K mg base (j + 1) "_law_program" sp := by
  obtain ⟨fd, F⟩ := T.d_law_program
  refine cal_mk F T.f_law_program sc_law_program (F.bindsN fun _ _ _ _ _ _ us hl => match us, hl with | [_], _ => rfl) pure_.len fun cdv A outer s H vs Q E hr h => ?_
  refine ⟨t_law_program K w s_law_names s_law_draw s_law_body, PSs.nox ?_, pure_.run vs H Q E h⟩
  exact (pss_cons (ps_set (i := 1) sc_law_program.nd rfl (Or.inl rfl) (pe_cal c_law_names hr rfl (pa_cons (pv 0) (pa_cons (pe_ixG (hu_of hr) (pe_lstN (pa_cons pe_int (pa_cons pe_int (pa_cons pe_int (pa_cons pe_int (pa_cons pe_int (pa_cons pe_int (pa_cons pe_int (pa_cons pe_int pa_nil))))))))) (pe_cal c_law_draw hr rfl (pa_cons (pv 0) (pa_cons pe_int pa_nil))) (fun _ _ => rfl)) pa_nil))))
  (pss_cons (ps_setLc (i := 2) (own := [("_law_name", 3)]) (g := (gName 3)) (tt := tYes) rfl sc_law_program.nd rfl rfl (sw_true rfl rfl rfl (by decide +kernel)) (pi_seq (pv 1)) (blkOk_by (by kernel_rfl)) (fun _ _ _ _ _ => (pg_name (i := 3) sc_law_program.nd rfl (by first | exact Or.inl rfl | exact Or.inr rfl))) (fun _ _ _ _ _ => pts_nil) (fun _ _ _ _ _ => (pe_tupN (pa_cons (pv 3) (pa_cons (pe_ixG (hu_of hr) (pe_lstN (pa_cons pe_int (pa_cons pe_int (pa_cons pe_int (pa_cons pe_int (pa_cons pe_int (pa_cons pe_int (pa_cons pe_int pa_nil)))))))) (pe_cal c_law_draw hr rfl (pa_cons (pv 0) (pa_cons pe_int pa_nil))) (fun _ _ => rfl)) pa_nil)))))
  (pss_cons (ps_set (i := 4) sc_law_program.nd rfl (Or.inl rfl) (pe_lstN pa_nil))
  (pss_cons (ps_for PassesOwn.never rfl (pi_seq (pv 2)) (pg_tup rfl (pgs_cons (pg_name (i := 3) sc_law_program.nd rfl (by first | exact Or.inl rfl | exact Or.inr rfl)) (pgs_cons (pg_name (i := 5) sc_law_program.nd rfl (by first | exact Or.inl rfl | exact Or.inr rfl)) pgs_nil))) (pss_cons (ps_set (i := 6) sc_law_program.nd rfl (Or.inl rfl) (pe_cal c_law_names hr rfl (pa_cons (pv 0) (pa_cons pe_int pa_nil))))
  (pss_cons (ps_set (i := 7) sc_law_program.nd rfl (Or.inl rfl) (pe_slice sl_any (pv 6) po_none (po_some (pv 5))))
  (pss_one (ps_expr (pe_bm PySem.F.plainAttrs_list PySem.F.slot_list_append PySem.F.type_list_append mt_appendG (pv 4) (pa_cons (pe_tupN (pa_cons (pv 3) (pa_cons (pe_callTy call_tupleG (by rfl) T.n_tuple (by decide +kernel) (pa_cons (pv 7) pa_nil)) (pa_cons (pe_cal c_law_body hr rfl (pa_cons (pv 0) (pa_cons (pv 2) (pa_cons (pv 3) (pa_cons (pv 7) (pa_cons (pe_slice sl_any (pv 6) (po_some (pv 5)) po_none) pa_nil)))))) pa_nil)))) pa_nil)))))))
  (pss_one (ps_ret (pe_tupN (pa_cons (pe_callTy call_tupleG (by rfl) T.n_tuple (by decide +kernel) (pa_cons (pv 4) pa_nil)) (pa_cons (pe_cal c_law_body hr rfl (pa_cons (pv 0) (pa_cons (pv 2) (pa_cons pe_str (pa_cons (pe_lstN pa_nil) (pa_cons (pe_cal c_law_names hr rfl (pa_cons (pv 0) (pa_cons pe_int pa_nil))) pa_nil)))))) pa_nil)))))))))
abbrev st_law_ground : Stmt := topS 43
theorem sc_law_ground : FnScope ["_law_part_here", "_law_place", "_law_known", "_law_inner_here", "_law_at", "_law_parts", "_law_one", "_law_row", "_law_found"] ["_law_part_here", "_law_place", "_law_known"] (defScope st_law_ground) := ⟨rfl, rfl, rfl, by decide +kernel, rfl, by decide +kernel, by decide +kernel⟩
theorem mk_law_ground {P : Program} {w : World} {K : PySem.W.Frag} {mg : Str → Option Value} {base : Heap} (T : TX w K mg) {j : Nat} {sp : Sp} {s_law_inner s_law_many s_law_ground : Sp} (c_law_inner : Cal P w K mg base j "_law_inner" s_law_inner) (c_law_many : Cal P w K mg base j "_law_many" s_law_many) (c_law_ground : Cal P w K mg base j "_law_ground" s_law_ground)
    (pure_ : PureOk 3 sp (t_law_ground K w s_law_inner s_law_many s_law_ground) 9) : Cal P w K mg base (j + 1) "_law_ground" sp := by
  obtain ⟨fd, F⟩ := T.d_law_ground
  refine cal_mk F T.f_law_ground sc_law_ground (F.bindsN fun _ _ _ _ _ _ us hl => match us, hl with | [_, _, _], _ => rfl) pure_.len fun cdv A outer s H vs Q E hr h => ?_
  refine ⟨t_law_ground K w s_law_inner s_law_many s_law_ground, PSs.nox ?_, pure_.run vs H Q E h⟩
  exact (pss_cons (ps_set (i := 3) sc_law_ground.nd rfl (Or.inl rfl) (pe_lstN pa_nil))
  (pss_cons (ps_set (i := 4) sc_law_ground.nd rfl (Or.inl rfl) (pe_op op_addG (pv 1) pe_int))
  (pss_cons (ps_set (i := 5) sc_law_ground.nd rfl (Or.inl rfl) (pe_cal c_law_inner hr rfl (pa_cons (pv 0) pa_nil)))
  (pss_cons (ps_for PassesOwn.never rfl (pi_seq (pv 5)) (pg_name (i := 6) sc_law_ground.nd rfl (by first | exact Or.inl rfl | exact Or.inr rfl)) (pss_cons (ps_expr (pe_bm PySem.F.plainAttrs_list PySem.F.slot_list_append PySem.F.type_list_append mt_appendG (pv 3) (pa_cons (pv 4) pa_nil)))
  (pss_one (ps_set (i := 4) sc_law_ground.nd rfl (Or.inl rfl) (pe_op op_addG (pv 4) (pe_cal c_law_many hr rfl (pa_cons (pv 6) pa_nil)))))))
  (pss_cons (ps_if (pt_cmpR (op_eqG (hu2_of hr)) (pe_ixG (hu_of hr) (pv 0) pe_int (fun _ _ => rfl)) pe_str (nomark _)) (pss_cons (ps_set (i := 2) sc_law_ground.nd rfl (Or.inl rfl) (pe_callTy call_dictG (by rfl) T.n_dict (by decide +kernel) (pa_cons (pv 2) pa_nil)))
  (pss_one (ps_for PassesOwn.never rfl (pi_zipM (by rfl) T.n_zip (pa_cons (pe_ixG (hu_of hr) (pv 0) pe_int (fun _ _ => rfl)) (pa_cons (pv 3) pa_nil))) (pg_tup rfl (pgs_cons (pg_name (i := 7) sc_law_ground.nd rfl (by first | exact Or.inl rfl | exact Or.inr rfl)) (pgs_cons (pg_name (i := 4) sc_law_ground.nd rfl (by first | exact Or.inl rfl | exact Or.inr rfl)) pgs_nil))) (pss_one (ps_asg (pe_tupN (pa_cons pe_str (pa_cons (pv 4) pa_nil))) (pg_sub (pv 2) (pe_ixG (hu_of hr) (pv 7) pe_int (fun _ _ => rfl)) (set_any (hu_of hr)))))))) pss_nil)
  (pss_cons (ps_set (i := 8) sc_law_ground.nd rfl (Or.inl rfl) (pe_lstN (pa_cons (pe_tupN (pa_cons (pv 0) (pa_cons (pv 3) (pa_cons (pe_ifExp (pt_cmpR (op_eqG (hu2_of hr)) (pe_ixG (hu_of hr) (pv 0) pe_int (fun _ _ => rfl)) pe_str (nomark _)) (pe_ixG (hu_of hr) (pv 2) (pe_ixG (hu_of hr) (pv 0) pe_int (fun _ _ => rfl)) (fun _ _ => rfl)) pe_non) pa_nil)))) pa_nil)))
  (pss_cons (ps_for PassesOwn.never rfl (pi_zipM (by rfl) T.n_zip (pa_cons (pv 5) (pa_cons (pv 3) pa_nil))) (pg_tup rfl (pgs_cons (pg_name (i := 6) sc_law_ground.nd rfl (by first | exact Or.inl rfl | exact Or.inr rfl)) (pgs_cons (pg_name (i := 4) sc_law_ground.nd rfl (by first | exact Or.inl rfl | exact Or.inr rfl)) pgs_nil))) (pss_one (ps_set (i := 8) sc_law_ground.nd rfl (Or.inl rfl) (pe_op op_addG (pv 8) (pe_cal c_law_ground hr rfl (pa_cons (pv 6) (pa_cons (pv 4) (pa_cons (pv 2) pa_nil))))))))
  (pss_one (ps_ret (pv 8))))))))))
abbrev st_law_inner : Stmt := topS 44
theorem sc_law_inner : FnScope ["_law_part_here", "_law_row", "_law_one"] ["_law_part_here"] (defScope st_law_inner) := ⟨rfl, rfl, rfl, by decide +kernel, rfl, by decide +kernel, by decide +kernel⟩
theorem mk_law_inner {P : Program} {w : World} {K : PySem.W.Frag} {mg : Str → Option Value} {base : Heap} (T : TX w K mg) {j : Nat} {sp : Sp}
    (pure_ : PureOk 1 sp (t_law_innerN K w ) 3) : Cal P w K mg base (j + 1) "_law_inner" sp := by
  obtain ⟨fd, F⟩ := T.d_law_inner
  refine cal_mk F T.f_law_inner sc_law_inner (F.bindsN fun _ _ _ _ _ _ us hl => match us, hl with | [_], _ => rfl) pure_.len fun cdv A outer s H vs Q E hr h => ?_
  refine ⟨t_law_innerN K w , PSs.nox ?_, pure_.run vs H Q E h⟩
  exact (pss_cons (ps_if (pt_cmpR (op_inG (hu_of hr)) (pe_ixG (hu_of hr) (pv 0) pe_int (fun _ _ => rfl)) (pe_tupN (pa_cons pe_str (pa_cons pe_str (pa_cons pe_str pa_nil)))) (by rfl)) (pss_one (ps_ret (pe_lstN pa_nil))) pss_nil)
  (pss_one (ps_ret (pe_ifExp (pt_cmpR (op_eqG (hu2_of hr)) (pe_ixG (hu_of hr) (pv 0) pe_int (fun _ _ => rfl)) pe_str (nomark _)) (pe_op op_addG (pe_lc (own := [("_law_row", 1)]) (g := (gName 1)) (tt := tYes) rfl sc_law_inner.nd (pi_seq (pe_ixG (hu_of hr) (pv 0) pe_int (fun _ _ => rfl))) (blkOk_by (by kernel_rfl)) (fun _ _ _ _ _ => (pg_name (i := 1) sc_law_inner.nd rfl (by first | exact Or.inl rfl | exact Or.inr rfl))) (fun _ _ _ _ _ => pts_nil) (fun _ _ _ _ _ => (pe_ixG (hu_of hr) (pv 1) pe_int (fun _ _ => rfl)))) (pe_lstN (pa_cons (pe_ixG (hu_of hr) (pv 0) pe_int (fun _ _ => rfl)) pa_nil))) (pe_lc (own := [("_law_one", 2)]) (g := (gName 2)) (tt := tYes) rfl sc_law_inner.nd (pi_seq (pe_slice sl_any (pv 0) (po_some pe_int) po_none)) (blkOk_by (by kernel_rfl)) (fun _ _ _ _ _ => (pg_name (i := 2) sc_law_inner.nd rfl (by first | exact Or.inl rfl | exact Or.inr rfl))) (fun _ _ _ _ _ => pts_nil) (fun _ _ _ _ _ => (pv 2)))))))
abbrev st_law_many : Stmt := topS 45
theorem sc_law_many : FnScope ["_law_part_here", "_law_one"] ["_law_part_here"] (defScope st_law_many) := ⟨rfl, rfl, rfl, by decide +kernel, rfl, by decide +kernel, by decide +kernel⟩
theorem mk_law_many {P : Program} {w : World} {K : PySem.W.Frag} {mg : Str → Option Value} {base : Heap} (T : TX w K mg) {j : Nat} {sp : Sp} {s_law_inner s_law_many : Sp} (c_law_inner : Cal P w K mg base j "_law_inner" s_law_inner) (c_law_many : Cal P w K mg base j "_law_many" s_law_many)
    (pure_ : PureOk 1 sp (t_law_many K w s_law_inner s_law_many) 2) : Cal P w K mg base (j + 1) "_law_many" sp := by
  obtain ⟨fd, F⟩ := T.d_law_many
  refine cal_mk F T.f_law_many sc_law_many (F.bindsN fun _ _ _ _ _ _ us hl => match us, hl with | [_], _ => rfl) pure_.len fun cdv A outer s H vs Q E hr h => ?_
  refine ⟨t_law_many K w s_law_inner s_law_many, PSs.nox ?_, pure_.run vs H Q E h⟩
  exact (pss_one (ps_ret (pe_op op_addG pe_int (pe_callB (cr_sum rfl) (by rfl) T.n_sum (by decide +kernel) (pa_cons (pe_lc (own := [("_law_one", 1)]) (g := (gName 1)) (tt := tYes) rfl sc_law_many.nd (pi_seq (pe_cal c_law_inner hr rfl (pa_cons (pv 0) pa_nil))) (blkOk_by (by kernel_rfl)) (fun _ _ _ _ _ => (pg_name (i := 1) sc_law_many.nd rfl (by first | exact Or.inl rfl | exact Or.inr rfl))) (fun _ _ _ _ _ => pts_nil) (fun _ _ _ _ _ => (pe_cal c_law_many hr rfl (pa_cons (pv 1) pa_nil)))) pa_nil)))))
abbrev st_law_grounds : Stmt := topS 46
theorem sc_law_grounds : FnScope ["_law_program_here", "_law_found", "_law_doors", "_law_name", "_law_names_here", "_law_body_here", "_law_known", "_law_k", "_law_one"] ["_law_program_here"] (defScope st_law_grounds) := ⟨rfl, rfl, rfl, by decide +kernel, rfl, by decide +kernel, by decide +kernel⟩
theorem mk_law_grounds {P : Program} {w : World} {K : PySem.W.Frag} {mg : Str → Option Value} {base : Heap} (T : TX w K mg) {j : Nat} {sp : Sp} {s_law_ground : Sp} (c_law_ground : Cal P w K mg base j "_law_ground" s_law_ground)
    (pure_ : PureOk 1 sp (t_law_grounds K w s_law_ground) 9) : Cal P w K mg base (j + 1) "_law_grounds" sp := by
  obtain ⟨fd, F⟩ := T.d_law_grounds
  refine cal_mk F T.f_law_grounds sc_law_grounds (F.bindsN fun _ _ _ _ _ _ us hl => match us, hl with | [_], _ => rfl) pure_.len fun cdv A outer s H vs Q E hr h => ?_
  refine ⟨t_law_grounds K w s_law_ground, PSs.nox ?_, pure_.run vs H Q E h⟩
  exact (pss_cons (ps_set (i := 1) sc_law_grounds.nd rfl (Or.inl rfl) (pe_lstN pa_nil))
  (pss_cons (ps_set (i := 2) sc_law_grounds.nd rfl (Or.inl rfl) pe_dnewKN)
  (pss_cons (ps_for PassesOwn.never rfl (pi_seq (pe_op op_addG (pe_ixG (hu_of hr) (pv 0) pe_int (fun _ _ => rfl)) (pe_tupN (pa_cons (pe_tupN (pa_cons pe_str (pa_cons (pe_tupN pa_nil) (pa_cons (pe_ixG (hu_of hr) (pv 0) pe_int (fun _ _ => rfl)) pa_nil)))) pa_nil)))) (pg_tup rfl (pgs_cons (pg_name (i := 3) sc_law_grounds.nd rfl (by first | exact Or.inl rfl | exact Or.inr rfl)) (pgs_cons (pg_name (i := 4) sc_law_grounds.nd rfl (by first | exact Or.inl rfl | exact Or.inr rfl)) (pgs_cons (pg_name (i := 5) sc_law_grounds.nd rfl (by first | exact Or.inl rfl | exact Or.inr rfl)) pgs_nil)))) (pss_cons (ps_set (i := 6) sc_law_grounds.nd rfl (Or.inl rfl) pe_dnewKN)
  (pss_cons (ps_for PassesOwn.never rfl (pi_enumT (by rfl) T.n_enumerate (pa_cons (pv 4) pa_nil)) (pg_tup rfl (pgs_cons (pg_name (i := 7) sc_law_grounds.nd rfl (by first | exact Or.inl rfl | exact Or.inr rfl)) (pgs_cons (pg_name (i := 8) sc_law_grounds.nd rfl (by first | exact Or.inl rfl | exact Or.inr rfl)) pgs_nil))) (pss_one (ps_asg (pe_tupN (pa_cons pe_str (pa_cons (pv 7) pa_nil))) (pg_sub (pv 6) (pv 8) (set_any (hu_of hr))))))
  (pss_cons (ps_asg (pe_tupN (pa_cons (pe_callB call_lenG (by rfl) T.n_len (by decide +kernel) (pa_cons (pv 1) pa_nil)) (pa_cons (pe_callB call_lenG (by rfl) T.n_len (by decide +kernel) (pa_cons (pv 4) pa_nil)) pa_nil))) (pg_sub (pv 2) (pv 3) (set_any (hu_of hr))))
  (pss_one (ps_set (i := 1) sc_law_grounds.nd rfl (Or.inl rfl) (pe_op op_addG (pv 1) (pe_cal c_law_ground hr rfl (pa_cons (pv 5) (pa_cons (pe_callB call_lenG (by rfl) T.n_len (by decide +kernel) (pa_cons (pv 1) pa_nil)) (pa_cons (pv 6) pa_nil)))))))))))
  (pss_one (ps_ret (pe_lstN (pa_cons (pv 1) (pa_cons (pv 2) pa_nil))))))))
abbrev st_law_node : Stmt := topS 47
theorem sc_law_node : FnScope ["_law_table", "_law_place", "_law_things", "_law_row"] ["_law_table", "_law_place", "_law_things"] (defScope st_law_node) := ⟨rfl, rfl, rfl, by decide +kernel, rfl, by decide +kernel, by decide +kernel⟩
theorem mk_law_node {P : Program} {w : World} {K : PySem.W.Frag} {mg : Str → Option Value} {base : Heap} (T : TX w K mg) {j : Nat} {sp : Sp}
    (pure_ : PureOk 3 sp (t_law_node K w ) 4) : Cal P w K mg base (j + 1) "_law_node" sp := by
  obtain ⟨fd, F⟩ := T.d_law_node
  refine cal_mk F T.f_law_node sc_law_node (F.bindsN fun _ _ _ _ _ _ us hl => match us, hl with | [_, _, _], _ => rfl) pure_.len fun cdv A outer s H vs Q E hr h => ?_
  refine ⟨t_law_node K w , PSs.nox ?_, pure_.run vs H Q E h⟩
  exact (pss_cons (ps_set (i := 3) sc_law_node.nd rfl (Or.inl rfl) (pe_tupN (pa_cons (pv 1) (pa_cons (pv 2) pa_nil))))
  (pss_cons (ps_if (PW.pt (pw_and (pt_cmpR (op_notInGN (hu20_of hr)) (pv 3) (pe_ixN (hu20_of hr) (pv 0) pe_int (fun _ _ => rfl)) (by rfl)) (pw_and1 (pt_tru (pe_ixN (hu20_of hr) (pv 0) pe_int (fun _ _ => rfl)) (by intro _; rfl))))) (pss_one (ps_ret (pe_un un_neg pe_int))) pss_nil)
  (pss_cons (ps_if (pt_cmpR (op_notInGN (hu20_of hr)) (pv 3) (pe_ixN (hu20_of hr) (pv 0) pe_int (fun _ _ => rfl)) (by rfl)) (pss_cons (ps_asg (pe_callB call_lenG (by rfl) T.n_len (by decide +kernel) (pa_cons (pe_ixN (hu20_of hr) (pv 0) pe_int (fun _ _ => rfl)) pa_nil)) (pg_sub (pe_ixN (hu20_of hr) (pv 0) pe_int (fun _ _ => rfl)) (pv 3) (set_anyN (hu20_of hr))))
  (pss_one (ps_expr (pe_bm PySem.F.plainAttrs_list PySem.F.slot_list_append PySem.F.type_list_append mt_appendG (pe_ixN (hu20_of hr) (pv 0) pe_int (fun _ _ => rfl)) (pa_cons (pv 3) pa_nil))))) pss_nil)
  (pss_one (ps_ret (pe_ixN (hu20_of hr) (pe_ixN (hu20_of hr) (pv 0) pe_int (fun _ _ => rfl)) (pv 3) (fun _ _ => rfl)))))))
abbrev st_law_seen : Stmt := topS 48
theorem sc_law_seen : FnScope ["_law_ground_here", "_law_table", "_law_place", "_law_things", "_law_named"] ["_law_ground_here", "_law_table", "_law_place", "_law_things"] (defScope st_law_seen) := ⟨rfl, rfl, rfl, by decide +kernel, rfl, by decide +kernel, by decide +kernel⟩
theorem mk_law_seen {P : Program} {w : World} {K : PySem.W.Frag} {mg : Str → Option Value} {base : Heap} (T : TX w K mg) {j : Nat} {sp : Sp} {s_law_node : Sp} (c_law_node : Cal P w K mg base j "_law_node" s_law_node)
    (pure_ : PureOk 4 sp (t_law_seen K w s_law_node) 5) : Cal P w K mg base (j + 1) "_law_seen" sp := by
  obtain ⟨fd, F⟩ := T.d_law_seen
  refine cal_mk F T.f_law_seen sc_law_seen (F.bindsN fun _ _ _ _ _ _ us hl => match us, hl with | [_, _, _, _], _ => rfl) pure_.len fun cdv A outer s H vs Q E hr h => ?_
  refine ⟨t_law_seen K w s_law_node, PSs.nox ?_, pure_.run vs H Q E h⟩
  exact (pss_cons (ps_set (i := 4) sc_law_seen.nd rfl (Or.inl rfl) (pe_ixG (hu_of hr) (pe_ixG (hu_of hr) (pe_ixG (hu_of hr) (pv 0) pe_int (fun _ _ => rfl)) (pv 2) (fun _ _ => rfl)) pe_int (fun _ _ => rfl)))
  (pss_cons (ps_if (pt_cmpR op_isG (pv 4) pe_non (nomark _)) (pss_one (ps_ret (pe_cal c_law_node hr rfl (pa_cons (pv 1) (pa_cons (pv 2) (pa_cons (pv 3) pa_nil)))))) pss_nil)
  (pss_one (ps_ret (pe_ifExp (pt_cmpR (op_eqG (hu2_of hr)) (pe_ixG (hu_of hr) (pv 4) pe_int (fun _ _ => rfl)) pe_str (nomark _)) (pe_ixG (hu_of hr) (pv 3) (pe_ixG (hu_of hr) (pv 4) pe_int (fun _ _ => rfl)) (fun _ _ => rfl)) (pe_cal c_law_node hr rfl (pa_cons (pv 1) (pa_cons (pe_ixG (hu_of hr) (pv 4) pe_int (fun _ _ => rfl)) (pa_cons (pv 3) pa_nil)))))))))
abbrev st_law_passed : Stmt := topS 49
theorem sc_law_passed : FnScope ["_law_word", "_law_number_here", "_law_worths"] ["_law_word", "_law_number_here", "_law_worths"] (defScope st_law_passed) := ⟨rfl, rfl, rfl, by decide +kernel, rfl, by decide +kernel, by decide +kernel⟩
theorem mk_law_passed {P : Program} {w : World} {K : PySem.W.Frag} {mg : Str → Option Value} {base : Heap} (T : TX w K mg) {j : Nat} {sp : Sp}
    (pure_ : PureOk 3 sp (t_law_passed K w ) 3) : Cal P w K mg base (j + 1) "_law_passed" sp := by
  obtain ⟨fd, F⟩ := T.d_law_passed
  refine cal_mk F T.f_law_passed sc_law_passed (F.bindsN fun _ _ _ _ _ _ us hl => match us, hl with | [_, _, _], _ => rfl) pure_.len fun cdv A outer s H vs Q E hr h => ?_
  refine ⟨t_law_passed K w , PSs.nox ?_, pure_.run vs H Q E h⟩
  exact (pss_one (ps_ret (pe_ifExp (pt_cmpR (op_eqG (hu2_of hr)) (pv 2) (pe_lstN pa_nil) (nomark _)) (pe_tupN (pa_cons (pv 0) (pa_cons (pv 1) pa_nil))) (pe_tupN (pa_cons pe_str (pa_cons (pe_ixG (hu_of hr) (pv 2) pe_int (fun _ _ => rfl)) pa_nil))))))
abbrev st_law_two : Stmt := topS 50
theorem sc_law_two : FnScope ["_law_kind", "_law_one", "_law_other", "_law_a", "_law_b", "_law_number_here"] ["_law_kind", "_law_one", "_law_other"] (defScope st_law_two) := ⟨rfl, rfl, rfl, by decide +kernel, rfl, by decide +kernel, by decide +kernel⟩
theorem mk_law_two {P : Program} {w : World} {K : PySem.W.Frag} {mg : Str → Option Value} {base : Heap} (T : TX w K mg) {j : Nat} {sp : Sp}
    (pure_ : PureOk 3 sp (t_law_two K w ) 6) : Cal P w K mg base (j + 1) "_law_two" sp := by
  obtain ⟨fd, F⟩ := T.d_law_two
  refine cal_mk F T.f_law_two sc_law_two (F.bindsN fun _ _ _ _ _ _ us hl => match us, hl with | [_, _, _], _ => rfl) pure_.len fun cdv A outer s H vs Q E hr h => ?_
  refine ⟨t_law_two K w , PSs.nox ?_, pure_.run vs H Q E h⟩
  exact (pss_cons (ps_if (pt_cmpR (op_neG (hu2_of hr)) (pe_ixG (hu_of hr) (pv 2) pe_int (fun _ _ => rfl)) pe_str (nomark _)) (pss_one (ps_ret (pe_tupN (pa_cons pe_str (pa_cons pe_str pa_nil))))) pss_nil)
  (pss_cons (ps_par (i := 3) (j := 4) (by rfl) sc_law_two.nd rfl rfl (by decide) rfl rfl (pa_cons (pe_ixG (hu_of hr) (pv 1) pe_int (fun _ _ => rfl)) (pa_cons (pe_ixG (hu_of hr) (pv 2) pe_int (fun _ _ => rfl)) pa_nil)) (by rfl))
  (pss_cons (ps_set (i := 5) sc_law_two.nd rfl (Or.inl rfl) (pe_ixG (hu_of hr) (pe_dispN (pps_cons (pe_cl pe_str) (pe_cl (pe_op op_addG (pv 3) (pv 4))) (pps_cons (pe_cl pe_str) (pe_cl (pe_op op_sub (pv 3) (pv 4))) (pps_cons (pe_cl pe_str) (pe_cl (pe_op op_mulG (pv 3) (pv 4))) (pps_cons (pe_cl pe_str) (pe_cl (pe_callTy call_int1 (by rfl) T.n_int (by decide +kernel) (pa_cons (pe_cmpR op_lt (pv 3) (pv 4) (nomark _)) pa_nil))) pps_nil)))) (by rfl) (by rfl) (fun z => by cases z) (by decide)) (pv 0) (fun _ _ => rfl)))
  (pss_one (ps_ret (pe_ifExp (pt_cmpR op_ge (pe_callB call_abs (by rfl) T.n_abs (by decide +kernel) (pa_cons (pv 5) pa_nil)) (pe_op op_pow pe_int pe_int) (nomark _)) (pe_tupN (pa_cons pe_str (pa_cons pe_str pa_nil))) (pe_tupN (pa_cons pe_str (pa_cons (pe_tupN (pa_cons pe_str (pa_cons (pv 5) pa_nil))) pa_nil)))))))))
abbrev st_law_given : Stmt := topS 51
theorem sc_law_given : FnScope ["_law_ground_here", "_law_table", "_law_worth_here", "_law_thing", "_law_worths", "_law_given_here", "_law_place", "_law_wanted"] ["_law_ground_here", "_law_table", "_law_worth_here", "_law_thing", "_law_worths"] (defScope st_law_given) := ⟨rfl, rfl, rfl, by decide +kernel, rfl, by decide +kernel, by decide +kernel⟩
theorem mk_law_given {P : Program} {w : World} {K : PySem.W.Frag} {mg : Str → Option Value} {base : Heap} (T : TX w K mg) {j : Nat} {sp : Sp} {s_law_passed s_law_node : Sp} (c_law_passed : Cal P w K mg base j "_law_passed" s_law_passed) (c_law_node : Cal P w K mg base j "_law_node" s_law_node)
    (pure_ : PureOk 5 sp (t_law_given K w s_law_passed s_law_node) 8) : Cal P w K mg base (j + 1) "_law_given" sp := by
  obtain ⟨fd, F⟩ := T.d_law_given
  refine cal_mk F T.f_law_given sc_law_given (F.bindsN fun _ _ _ _ _ _ us hl => match us, hl with | [_, _, _, _, _], _ => rfl) pure_.len fun cdv A outer s H vs Q E hr h => ?_
  refine ⟨t_law_given K w s_law_passed s_law_node, PSs.nox ?_, pure_.run vs H Q E h⟩
  exact (pss_cons (ps_if (pt_cmpR (op_neG (hu2_of hr)) (pe_ixG (hu_of hr) (pv 2) pe_int (fun _ _ => rfl)) pe_str (nomark _)) (pss_one (ps_ret (pe_tupN (pa_cons pe_str (pa_cons pe_str pa_nil))))) pss_nil)
  (pss_cons (ps_set (i := 5) sc_law_given.nd rfl (Or.inl rfl) (pe_op op_addG (pe_ixG (hu_of hr) (pv 2) pe_int (fun _ _ => rfl)) (pe_tupN (pa_cons (pv 3) pa_nil))))
  (pss_cons (ps_asg (pe_ixG (hu_of hr) (pe_ixG (hu_of hr) (pv 0) pe_int (fun _ _ => rfl)) (pe_ixG (hu_of hr) (pv 2) pe_int (fun _ _ => rfl)) (fun _ _ => rfl)) (pg_tup rfl (pgs_cons (pg_name (i := 6) sc_law_given.nd rfl (by first | exact Or.inl rfl | exact Or.inr rfl)) (pgs_cons (pg_name (i := 7) sc_law_given.nd rfl (by first | exact Or.inl rfl | exact Or.inr rfl)) pgs_nil))))
  (pss_cons (ps_if (pt_cmpR op_lt (pe_callB call_lenG (by rfl) T.n_len (by decide +kernel) (pa_cons (pv 5) pa_nil)) (pv 7) (nomark _)) (pss_one (ps_ret (pe_tupN (pa_cons pe_str (pa_cons (pe_tupN (pa_cons pe_str (pa_cons (pe_ixG (hu_of hr) (pv 2) pe_int (fun _ _ => rfl)) (pa_cons (pv 5) pa_nil)))) pa_nil))))) pss_nil)
  (pss_one (ps_ret (pe_cal c_law_passed hr rfl (pa_cons pe_str (pa_cons (pe_cal c_law_node hr rfl (pa_cons (pv 1) (pa_cons (pv 6) (pa_cons (pv 5) pa_nil)))) (pa_cons (pv 4) pa_nil))))))))))
abbrev st_law_behind : Stmt := topS 52
theorem sc_law_behind : FnScope ["_law_ground_here", "_law_table", "_law_number_here", "_law_worths", "_law_place", "_law_things", "_law_part_here", "_law_inner_here", "_law_named", "_law_kind", "_law_seen_here", "_law_at", "_law_other", "_law_one", "_law_side"] ["_law_ground_here", "_law_table", "_law_number_here", "_law_worths"] (defScope st_law_behind) := ⟨rfl, rfl, rfl, by decide +kernel, rfl, by decide +kernel, by decide +kernel⟩
theorem mk_law_behind {P : Program} {w : World} {K : PySem.W.Frag} {mg : Str → Option Value} {base : Heap} (T : TX w K mg) {j : Nat} {sp : Sp} {s_law_seen s_law_passed s_law_node s_law_given s_law_two : Sp} (c_law_seen : Cal P w K mg base j "_law_seen" s_law_seen) (c_law_passed : Cal P w K mg base j "_law_passed" s_law_passed) (c_law_node : Cal P w K mg base j "_law_node" s_law_node) (c_law_given : Cal P w K mg base j "_law_given" s_law_given) (c_law_two : Cal P w K mg base j "_law_two" s_law_two)
    (pure_ : PureOk 4 sp (t_law_behind K w s_law_seen s_law_passed s_law_node s_law_given s_law_two) 15) : Cal P w K mg base (j + 1) "_law_behind" sp := by
  obtain ⟨fd, F⟩ := T.d_law_behind
  refine cal_mk F T.f_law_behind sc_law_behind (F.bindsN fun _ _ _ _ _ _ us hl => match us, hl with | [_, _, _, _], _ => rfl) pure_.len fun cdv A outer s H vs Q E hr h => ?_
  refine ⟨t_law_behind K w s_law_seen s_law_passed s_law_node s_law_given s_law_two, PSs.nox ?_, pure_.run vs H Q E h⟩
  exact (pss_cons (ps_asg (pe_ixG (hu_of hr) (pe_ixG (hu_of hr) (pv 1) pe_int (fun _ _ => rfl)) (pv 2) (fun _ _ => rfl)) (pg_tup rfl (pgs_cons (pg_name (i := 4) sc_law_behind.nd rfl (by first | exact Or.inl rfl | exact Or.inr rfl)) (pgs_cons (pg_name (i := 5) sc_law_behind.nd rfl (by first | exact Or.inl rfl | exact Or.inr rfl)) pgs_nil))))
  (pss_cons (ps_asg (pe_ixG (hu_of hr) (pe_ixG (hu_of hr) (pv 0) pe_int (fun _ _ => rfl)) (pv 4) (fun _ _ => rfl)) (pg_tup rfl (pgs_cons (pg_name (i := 6) sc_law_behind.nd rfl (by first | exact Or.inl rfl | exact Or.inr rfl)) (pgs_cons (pg_name (i := 7) sc_law_behind.nd rfl (by first | exact Or.inl rfl | exact Or.inr rfl)) (pgs_cons (pg_name (i := 8) sc_law_behind.nd rfl (by first | exact Or.inl rfl | exact Or.inr rfl)) pgs_nil)))))
  (pss_cons (ps_set (i := 9) sc_law_behind.nd rfl (Or.inl rfl) (pe_ixG (hu_of hr) (pv 6) pe_int (fun _ _ => rfl)))
  (pss_cons (ps_setLc (i := 10) (own := [("_law_at", 11)]) (g := (gName 11)) (tt := tYes) rfl sc_law_behind.nd rfl rfl (sw_true rfl rfl rfl (by decide +kernel)) (pi_seq (pv 7)) (blkOk_by (by kernel_rfl)) (fun _ _ _ _ _ => (pg_name (i := 11) sc_law_behind.nd rfl (by first | exact Or.inl rfl | exact Or.inr rfl))) (fun _ _ _ _ _ => pts_nil) (fun _ _ _ _ _ => (pe_cal c_law_seen hr rfl (pa_cons (pv 0) (pa_cons (pv 1) (pa_cons (pv 11) (pa_cons (pv 5) pa_nil)))))))
  (pss_cons (ps_if (pt_cmpR (op_inG (hu_of hr)) (pv 9) (pe_tupN (pa_cons pe_str (pa_cons pe_str pa_nil))) (by rfl)) (pss_one (ps_ret (pe_tupN (pa_cons pe_str (pa_cons (pe_ifExp (pt_cmpR (op_eqG (hu2_of hr)) (pv 9) pe_str (nomark _)) (pe_tupN (pa_cons pe_str (pa_cons (pe_ixG (hu_of hr) (pv 6) pe_int (fun _ _ => rfl)) pa_nil))) (pe_tupN (pa_cons pe_str (pa_cons (pe_ixG (hu_of hr) (pv 10) pe_int (fun _ _ => rfl)) (pa_cons (pe_ixG (hu_of hr) (pv 10) pe_int (fun _ _ => rfl)) pa_nil))))) pa_nil))))) pss_nil)
  (pss_cons (ps_if (pt_cmpR (op_inG (hu_of hr)) (pv 9) (pe_tupN (pa_cons pe_str (pa_cons pe_str pa_nil))) (by rfl)) (pss_cons (ps_set (i := 12) sc_law_behind.nd rfl (Or.inl rfl) (pe_ifExp (pt_cmpR (op_eqG (hu2_of hr)) (pv 9) pe_str (nomark _)) (pe_cal c_law_seen hr rfl (pa_cons (pv 0) (pa_cons (pv 1) (pa_cons (pv 4) (pa_cons (pv 5) pa_nil))))) (pe_ixG (hu_of hr) (pv 10) (pe_un un_neg pe_int) (fun _ _ => rfl))))
  (pss_one (ps_ret (pe_cal c_law_passed hr rfl (pa_cons pe_str (pa_cons (pv 12) (pa_cons (pv 3) pa_nil))))))) pss_nil)
  (pss_cons (ps_if (PW.pt (pw_and (pt_cmpR (op_eqG (hu2_of hr)) (pv 9) pe_str (nomark _)) (pw_and1 (pt_cmpR op_gt (pe_ixG (hu_of hr) (pe_ixG (hu_of hr) (pe_ixG (hu_of hr) (pv 0) pe_int (fun _ _ => rfl)) (pe_ixG (hu_of hr) (pv 6) pe_int (fun _ _ => rfl)) (fun _ _ => rfl)) pe_int (fun _ _ => rfl)) pe_int (nomark _))))) (pss_one (ps_ret (pe_tupN (pa_cons pe_str (pa_cons (pe_tupN (pa_cons pe_str (pa_cons (pe_ixG (hu_of hr) (pv 6) pe_int (fun _ _ => rfl)) (pa_cons (pe_tupN pa_nil) pa_nil)))) pa_nil))))) pss_nil)
  (pss_cons (ps_if (pt_cmpR (op_eqG (hu2_of hr)) (pv 9) pe_str (nomark _)) (pss_one (ps_ret (pe_cal c_law_passed hr rfl (pa_cons pe_str (pa_cons (pe_cal c_law_node hr rfl (pa_cons (pv 1) (pa_cons (pe_ixG (hu_of hr) (pe_ixG (hu_of hr) (pe_ixG (hu_of hr) (pv 0) pe_int (fun _ _ => rfl)) (pe_ixG (hu_of hr) (pv 6) pe_int (fun _ _ => rfl)) (fun _ _ => rfl)) pe_int (fun _ _ => rfl)) (pa_cons (pe_tupN pa_nil) pa_nil)))) (pa_cons (pv 3) pa_nil)))))) pss_nil)
  (pss_cons (ps_if (pt_cmpR (op_eqG (hu2_of hr)) (pv 3) (pe_lstN pa_nil) (nomark _)) (pss_one (ps_ret (pe_tupN (pa_cons pe_str (pa_cons (pe_ixG (hu_of hr) (pv 10) pe_int (fun _ _ => rfl)) pa_nil))))) pss_nil)
  (pss_cons (ps_set (i := 13) sc_law_behind.nd rfl (Or.inl rfl) (pe_ixG (hu_of hr) (pv 3) pe_int (fun _ _ => rfl)))
  (pss_cons (ps_if (pt_cmpR (op_eqG (hu2_of hr)) (pv 9) pe_str (nomark _)) (pss_one (ps_ret (pe_cal c_law_given hr rfl (pa_cons (pv 0) (pa_cons (pv 1) (pa_cons (pv 13) (pa_cons (pe_ixG (hu_of hr) (pv 10) pe_int (fun _ _ => rfl)) (pa_cons (pe_slice sl_any (pv 3) (po_some pe_int) po_none) pa_nil)))))))) pss_nil)
  (pss_cons (ps_if (pt_cmpR (op_inG (hu_of hr)) (pv 9) (pe_tupN (pa_cons pe_str (pa_cons pe_str pa_nil))) (by rfl)) (pss_cons (ps_set (i := 14) sc_law_behind.nd rfl (Or.inl rfl) (pe_op op_addG pe_int (pe_callTy call_int1 (by rfl) T.n_int (by decide +kernel) (pa_cons (pe_cmpR (op_eqG (hu2_of hr)) (pv 9) pe_str (nomark _)) pa_nil))))
  (pss_one (ps_ret (pe_ifExp (pt_cmpR (op_eqG (hu2_of hr)) (pe_ixG (hu_of hr) (pv 13) pe_int (fun _ _ => rfl)) pe_str (nomark _)) (pe_cal c_law_passed hr rfl (pa_cons pe_str (pa_cons (pe_ixG (hu_of hr) (pv 13) (pv 14) (fun _ _ => rfl)) (pa_cons (pe_slice sl_any (pv 3) (po_some pe_int) po_none) pa_nil)))) (pe_tupN (pa_cons pe_str (pa_cons pe_str pa_nil))))))) pss_nil)
  (pss_cons (ps_if (pt_cmpR (op_neG (hu2_of hr)) (pe_ixG (hu_of hr) (pv 13) pe_int (fun _ _ => rfl)) pe_str (nomark _)) (pss_one (ps_ret (pe_tupN (pa_cons pe_str (pa_cons pe_str pa_nil))))) pss_nil)
  (pss_cons (ps_if (pt_cmpR (op_eqG (hu2_of hr)) (pv 9) pe_str (nomark _)) (pss_one (ps_ret (pe_cal c_law_passed hr rfl (pa_cons pe_str (pa_cons (pe_ixG (hu_of hr) (pv 10) (pe_op op_addG pe_int (pe_callTy call_int1 (by rfl) T.n_int (by decide +kernel) (pa_cons (pe_cmpR (op_eqG (hu2_of hr)) (pe_ixG (hu_of hr) (pv 13) pe_int (fun _ _ => rfl)) pe_int (nomark _)) pa_nil))) (fun _ _ => rfl)) (pa_cons (pe_slice sl_any (pv 3) (po_some pe_int) po_none) pa_nil)))))) pss_nil)
  (pss_one (ps_ret (pe_ifExp (pt_cmpR (op_eqG (hu2_of hr)) (pe_callB call_lenG (by rfl) T.n_len (by decide +kernel) (pa_cons (pv 3) pa_nil)) pe_int (nomark _)) (pe_tupN (pa_cons pe_str (pa_cons (pe_ixG (hu_of hr) (pv 10) pe_int (fun _ _ => rfl)) pa_nil))) (pe_cal c_law_two hr rfl (pa_cons (pv 9) (pa_cons (pv 13) (pa_cons (pe_ixG (hu_of hr) (pv 3) pe_int (fun _ _ => rfl)) pa_nil)))))))))))))))))))))
abbrev st_law_worth : Stmt := topS 53
theorem sc_law_worth : FnScope ["_law_pen_here", "_law_program_here", "_law_many_here", "_law_way", "_law_rows", "_law_name", "_law_names_here", "_law_body_here", "_law_wanted", "_law_k"] ["_law_pen_here", "_law_program_here", "_law_many_here"] (defScope st_law_worth) := ⟨rfl, rfl, rfl, by decide +kernel, rfl, by decide +kernel, by decide +kernel⟩
theorem mk_law_worth {P : Program} {w : World} {K : PySem.W.Frag} {mg : Str → Option Value} {base : Heap} (T : TX w K mg) {j : Nat} {sp : Sp} {s_law_draw s_law_number : Sp} (c_law_draw : Cal P w K mg base j "_law_draw" s_law_draw) (c_law_number : Cal P w K mg base j "_law_number" s_law_number)
    (pure_ : PureOk 3 sp (t_law_worth K w s_law_draw s_law_number) 10) : Cal P w K mg base (j + 1) "_law_worth" sp := by
  obtain ⟨fd, F⟩ := T.d_law_worth
  refine cal_mk F T.f_law_worth sc_law_worth (F.bindsN fun _ _ _ _ _ _ us hl => match us, hl with | [_, _, _], _ => rfl) pure_.len fun cdv A outer s H vs Q E hr h => ?_
  refine ⟨t_law_worth K w s_law_draw s_law_number, PSs.nox ?_, pure_.run vs H Q E h⟩
  exact (pss_cons (ps_set (i := 3) sc_law_worth.nd rfl (Or.inl rfl) (pe_cal c_law_draw hr rfl (pa_cons (pv 0) (pa_cons pe_int pa_nil))))
  (pss_cons (ps_setLc (i := 4) (own := [("_law_name", 5), ("_law_names_here", 6), ("_law_body_here", 7)]) (g := (gTup K 3 (gCons (gName 5) (gCons (gName 6) (gCons (gName 7) gNil))))) (tt := (tTest (tOp (rNeG K) (tVar 6) (tTupN tNil)))) rfl sc_law_worth.nd rfl rfl (sw_true rfl rfl rfl (by decide +kernel)) (pi_seq (pe_ixG (hu_of hr) (pv 1) pe_int (fun _ _ => rfl))) (blkOk_by (by kernel_rfl)) (fun _ _ _ _ _ => (pg_tup rfl (pgs_cons (pg_name (i := 5) sc_law_worth.nd rfl (by first | exact Or.inl rfl | exact Or.inr rfl)) (pgs_cons (pg_name (i := 6) sc_law_worth.nd rfl (by first | exact Or.inl rfl | exact Or.inr rfl)) (pgs_cons (pg_name (i := 7) sc_law_worth.nd rfl (by first | exact Or.inl rfl | exact Or.inr rfl)) pgs_nil))))) (fun _ _ _ _ _ => (pts_one (pt_cmpR (op_neG (hu2_of hr)) (pv 6) (pe_tupN pa_nil) (nomark _)))) (fun _ _ _ _ _ => (pe_tupN (pa_cons (pv 5) (pa_cons (pe_callB call_lenG (by rfl) T.n_len (by decide +kernel) (pa_cons (pv 6) pa_nil)) pa_nil)))))
  (pss_cons (ps_if (pt_cmpR (op_eqG (hu2_of hr)) (pv 3) pe_int (nomark _)) (pss_one (ps_ret (pe_tupN (pa_cons pe_str (pa_cons (pe_cal c_law_draw hr rfl (pa_cons (pv 0) (pa_cons (pv 2) pa_nil))) (pa_cons (pe_cal c_law_draw hr rfl (pa_cons (pv 0) (pa_cons (pv 2) pa_nil))) pa_nil)))))) pss_nil)
  (pss_cons (ps_if (PW.pt (pw_and (pt_cmpR op_lt (pv 3) pe_int (nomark _)) (pw_and1 (pt_cmpR (op_neG (hu2_of hr)) (pv 4) (pe_lstN pa_nil) (nomark _))))) (pss_cons (ps_asg (pe_ixG (hu_of hr) (pv 4) (pe_cal c_law_draw hr rfl (pa_cons (pv 0) (pa_cons (pe_callB call_lenG (by rfl) T.n_len (by decide +kernel) (pa_cons (pv 4) pa_nil)) pa_nil))) (fun _ _ => rfl)) (pg_tup rfl (pgs_cons (pg_name (i := 5) sc_law_worth.nd rfl (by first | exact Or.inl rfl | exact Or.inr rfl)) (pgs_cons (pg_name (i := 8) sc_law_worth.nd rfl (by first | exact Or.inl rfl | exact Or.inr rfl)) pgs_nil))))
  (pss_one (ps_ret (pe_tupN (pa_cons pe_str (pa_cons (pv 5) (pa_cons (pe_callTy call_tupleG (by rfl) T.n_tuple (by decide +kernel) (pa_cons (pe_lc (own := [("_law_k", 9)]) (g := (gName 9)) (tt := tYes) rfl sc_law_worth.nd (pi_range1 (by rfl) T.n_range (pa_cons (pe_cal c_law_draw hr rfl (pa_cons (pv 0) (pa_cons (pv 8) pa_nil))) pa_nil)) (blkOk_by (by kernel_rfl)) (fun _ _ _ _ _ => (pg_name (i := 9) sc_law_worth.nd rfl (by first | exact Or.inl rfl | exact Or.inr rfl))) (fun _ _ _ _ _ => pts_nil) (fun _ _ _ _ _ => (pe_cal c_law_draw hr rfl (pa_cons (pv 0) (pa_cons (pv 2) pa_nil))))) pa_nil)) pa_nil))))))) pss_nil)
  (pss_one (ps_ret (pe_tupN (pa_cons pe_str (pa_cons (pe_ixG (hu_of hr) (pe_lstN (pa_cons (pe_cal c_law_number hr rfl (pa_cons (pv 0) pa_nil)) (pa_cons (pe_op op_sub (pe_op op_pow pe_int pe_int) pe_int) (pa_cons (pe_op op_sub pe_int (pe_op op_pow pe_int pe_int)) (pa_cons pe_int pa_nil))))) (pe_cal c_law_draw hr rfl (pa_cons (pv 0) (pa_cons pe_int pa_nil))) (fun _ _ => rfl)) pa_nil)))))))))
abbrev st_law_wish : Stmt := topS 54
theorem sc_law_wish : FnScope ["_law_pen_here", "_law_program_here", "_law_kind", "_law_many_here", "_law_found", "_law_k", "_law_other", "_law_good"] ["_law_pen_here", "_law_program_here", "_law_kind", "_law_many_here"] (defScope st_law_wish) := ⟨rfl, rfl, rfl, by decide +kernel, rfl, by decide +kernel, by decide +kernel⟩
theorem mk_law_wish {P : Program} {w : World} {K : PySem.W.Frag} {mg : Str → Option Value} {base : Heap} (T : TX w K mg) {j : Nat} {sp : Sp} {s_law_worth : Sp} (c_law_worth : Cal P w K mg base j "_law_worth" s_law_worth)
    (pure_ : PureOk 4 sp (t_law_wish K w s_law_worth) 8) : Cal P w K mg base (j + 1) "_law_wish" sp := by
  obtain ⟨fd, F⟩ := T.d_law_wish
  refine cal_mk F T.f_law_wish sc_law_wish (F.bindsN fun _ _ _ _ _ _ us hl => match us, hl with | [_, _, _, _], _ => rfl) pure_.len fun cdv A outer s H vs Q E hr h => ?_
  refine ⟨t_law_wish K w s_law_worth, PSs.nox ?_, pure_.run vs H Q E h⟩
  exact (pss_cons (ps_set (i := 4) sc_law_wish.nd rfl (Or.inl rfl) (pe_cal c_law_worth hr rfl (pa_cons (pv 0) (pa_cons (pv 1) (pa_cons (pv 3) pa_nil)))))
  (pss_cons (ps_for PassesOwn.never rfl (pi_range1 (by rfl) T.n_range (pa_cons pe_int pa_nil)) (pg_name (i := 5) sc_law_wish.nd rfl (by first | exact Or.inl rfl | exact Or.inr rfl)) (pss_cons (ps_set (i := 6) sc_law_wish.nd rfl (Or.inl rfl) (pe_cal c_law_worth hr rfl (pa_cons (pv 0) (pa_cons (pv 1) (pa_cons (pv 3) pa_nil)))))
  (pss_cons (ps_set (i := 7) sc_law_wish.nd rfl (Or.inl rfl) (pe_dget2 (hu_of hr) (pe_dispN (pps_cons (pe_cl pe_str) (pe_cl pe_str) (pps_cons (pe_cl pe_str) (pe_cl pe_str) (pps_cons (pe_cl pe_str) (pe_cl pe_str) pps_nil))) (by rfl) (by rfl) (fun z => by cases z) (by decide)) (pv 2) pe_str ⟨rfl, rfl, rfl, rfl⟩))
  (pss_one (ps_if (pt_cmpR (op_neG (hu2_of hr)) (pe_ixG (hu_of hr) (pv 4) pe_int (fun _ _ => rfl)) (pv 7) (nomark _)) (pss_one (ps_set (i := 4) sc_law_wish.nd rfl (Or.inl rfl) (pv 6))) pss_nil)))))
  (pss_one (ps_ret (pv 4)))))
abbrev st_law_same : Stmt := topS 55
theorem sc_law_same : FnScope ["_law_nodes", "_law_table", "_law_found", "_law_due", "_law_one", "_law_other", "_law_here", "_law_there", "_law_at"] ["_law_nodes", "_law_table", "_law_found", "_law_due"] (defScope st_law_same) := ⟨rfl, rfl, rfl, by decide +kernel, rfl, by decide +kernel, by decide +kernel⟩
theorem mk_law_same {P : Program} {w : World} {K : PySem.W.Frag} {mg : Str → Option Value} {base : Heap} (T : TX w K mg) {j : Nat} {sp : Sp} {s_Nodes_told : Sp} (c_Nodes_told : MCal P w K mg base j (He.ga K "Nodes") "told" s_Nodes_told)
    (pure_ : PureOk 4 sp (t_law_same K w s_Nodes_told) 9) : Cal P w K mg base (j + 1) "_law_same" sp := by
  obtain ⟨fd, F⟩ := T.d_law_same
  refine cal_mk F T.f_law_same sc_law_same (F.bindsN fun _ _ _ _ _ _ us hl => match us, hl with | [_, _, _, _], _ => rfl) pure_.len fun cdv A outer s H vs Q E hr h => ?_
  refine ⟨t_law_same K w s_Nodes_told, PSs.nox ?_, pure_.run vs H Q E h⟩
  exact (pss_cons (ps_if (PW.pt (pw_or (pt_cmpR (op_neG (hu2_of hr)) (pe_ixG (hu_of hr) (pv 2) pe_int (fun _ _ => rfl)) (pe_ixG (hu_of hr) (pv 3) pe_int (fun _ _ => rfl)) (nomark _)) (pw_or (pt_not (pt_tru (pe_callB call_isiG (by rfl) T.n_isinstance (by decide +kernel) (pa_cons (pv 2) (pa_cons (pe_bltn (v := .ty "tuple") rfl T.n_tuple (by decide +kernel) rfl) pa_nil))) (by intro _; rfl))) (pw_or1 (pt_cmpR (op_neG (hu2_of hr)) (pe_callB call_lenG (by rfl) T.n_len (by decide +kernel) (pa_cons (pv 2) pa_nil)) pe_int (nomark _)))))) (pss_one (ps_ret pe_bl)) pss_nil)
  (pss_cons (ps_if (pt_cmpR (op_inG (hu_of hr)) (pe_ixG (hu_of hr) (pv 3) pe_int (fun _ _ => rfl)) (pe_tupN (pa_cons pe_str (pa_cons pe_str pa_nil))) (by rfl)) (pss_cons (ps_par (i := 4) (j := 5) (by rfl) sc_law_same.nd rfl rfl (by decide) rfl rfl (pa_cons (pe_mcal (pv 0) c_Nodes_told hr (pa_cons (pe_ixG (hu_of hr) (pv 2) pe_int (fun _ _ => rfl)) pa_nil)) (pa_cons (pe_ixG (hu_of hr) (pe_ixG (hu_of hr) (pv 1) pe_int (fun _ _ => rfl)) (pe_ixG (hu_of hr) (pv 3) pe_int (fun _ _ => rfl)) (fun _ _ => rfl)) pa_nil)) (by rfl))
  (pss_cons (ps_par (i := 6) (j := 7) (by rfl) sc_law_same.nd rfl rfl (by decide) rfl rfl (pa_cons (pe_lc (own := [("_law_at", 8)]) (g := (gName 8)) (tt := tYes) rfl sc_law_same.nd (pi_seq (pe_ixG (hu_of hr) (pv 4) pe_int (fun _ _ => rfl))) (blkOk_by (by kernel_rfl)) (fun _ _ _ _ _ => (pg_name (i := 8) sc_law_same.nd rfl (by first | exact Or.inl rfl | exact Or.inr rfl))) (fun _ _ _ _ _ => pts_nil) (fun _ _ _ _ _ => (pe_mcal (pv 0) c_Nodes_told hr (pa_cons (pv 8) pa_nil)))) (pa_cons (pe_lc (own := [("_law_at", 8)]) (g := (gName 8)) (tt := tYes) rfl sc_law_same.nd (pi_seq (pe_ixG (hu_of hr) (pv 5) pe_int (fun _ _ => rfl))) (blkOk_by (by kernel_rfl)) (fun _ _ _ _ _ => (pg_name (i := 8) sc_law_same.nd rfl (by first | exact Or.inl rfl | exact Or.inr rfl))) (fun _ _ _ _ _ => pts_nil) (fun _ _ _ _ _ => (pe_ixG (hu_of hr) (pe_ixG (hu_of hr) (pv 1) pe_int (fun _ _ => rfl)) (pv 8) (fun _ _ => rfl)))) pa_nil)) (by rfl))
  (pss_one (ps_ret (pe_andT (pe_cmpR (op_eqG (hu2_of hr)) (pe_ixG (hu_of hr) (pv 4) pe_int (fun _ _ => rfl)) (pe_ixG (hu_of hr) (pv 5) pe_int (fun _ _ => rfl)) (nomark _)) (pe_one (pe_cmpR (op_eqG (hu2_of hr)) (pv 6) (pv 7) (nomark _)))))))) pss_nil)
  (pss_cons (ps_if (PW.pt (pw_or (pt_cmpR (op_eqG (hu2_of hr)) (pe_ixG (hu_of hr) (pv 3) pe_int (fun _ _ => rfl)) pe_str (nomark _)) (pw_or1 (pt_cmpR (op_eqG (hu2_of hr)) (pe_ixG (hu_of hr) (pe_ixG (hu_of hr) (pv 3) pe_int (fun _ _ => rfl)) pe_int (fun _ _ => rfl)) pe_str (nomark _))))) (pss_one (ps_ret (pe_andT (pe_cmpR (op_eqG (hu2_of hr)) (pv 2) (pv 3) (nomark _)) (pe_one (pe_notT (pe_callB call_isiG (by rfl) T.n_isinstance (by decide +kernel) (pa_cons (pe_ixG (hu_of hr) (pe_ixG (hu_of hr) (pv 2) pe_int (fun _ _ => rfl)) pe_int (fun _ _ => rfl)) (pa_cons (pe_bltn (v := .ty "bool") rfl T.n_bool (by decide +kernel) rfl) pa_nil)))))))) pss_nil)
  (pss_cons (ps_if (pt_cmpR (op_eqG (hu2_of hr)) (pe_ixG (hu_of hr) (pe_ixG (hu_of hr) (pv 3) pe_int (fun _ _ => rfl)) pe_int (fun _ _ => rfl)) pe_str (nomark _)) (pss_cons (ps_if (PW.pt (pw_or (pt_cmpR (op_neG (hu2_of hr)) (pe_ixG (hu_of hr) (pe_ixG (hu_of hr) (pv 2) pe_int (fun _ _ => rfl)) pe_int (fun _ _ => rfl)) pe_str (nomark _)) (pw_or1 (pt_cmpR (op_neG (hu2_of hr)) (pe_callB call_lenG (by rfl) T.n_len (by decide +kernel) (pa_cons (pe_ixG (hu_of hr) (pv 2) pe_int (fun _ _ => rfl)) pa_nil)) pe_int (nomark _))))) (pss_one (ps_ret pe_bl)) pss_nil)
  (pss_one (ps_ret (pe_cmpR (op_eqG (hu2_of hr)) (pe_lc (own := [("_law_at", 8)]) (g := (gName 8)) (tt := tYes) rfl sc_law_same.nd (pi_seq (pe_slice sl_any (pe_ixG (hu_of hr) (pv 2) pe_int (fun _ _ => rfl)) (po_some pe_int) po_none)) (blkOk_by (by kernel_rfl)) (fun _ _ _ _ _ => (pg_name (i := 8) sc_law_same.nd rfl (by first | exact Or.inl rfl | exact Or.inr rfl))) (fun _ _ _ _ _ => pts_nil) (fun _ _ _ _ _ => (pe_mcal (pv 0) c_Nodes_told hr (pa_cons (pv 8) pa_nil)))) (pe_lc (own := [("_law_at", 8)]) (g := (gName 8)) (tt := tYes) rfl sc_law_same.nd (pi_seq (pe_slice sl_any (pe_ixG (hu_of hr) (pv 3) pe_int (fun _ _ => rfl)) (po_some pe_int) po_none)) (blkOk_by (by kernel_rfl)) (fun _ _ _ _ _ => (pg_name (i := 8) sc_law_same.nd rfl (by first | exact Or.inl rfl | exact Or.inr rfl))) (fun _ _ _ _ _ => pts_nil) (fun _ _ _ _ _ => (pe_ixG (hu_of hr) (pe_ixG (hu_of hr) (pv 1) pe_int (fun _ _ => rfl)) (pv 8) (fun _ _ => rfl)))) (nomark _))))) pss_nil)
  (pss_cons (ps_if (PW.pt (pw_or (pt_cmpR (op_neG (hu2_of hr)) (pe_slice sl_any (pe_ixG (hu_of hr) (pv 2) pe_int (fun _ _ => rfl)) po_none (po_some pe_int)) (pe_slice sl_any (pe_ixG (hu_of hr) (pv 3) pe_int (fun _ _ => rfl)) po_none (po_some pe_int)) (nomark _)) (pw_or1 (pt_not (pt_tru (pe_callB call_isiG (by rfl) T.n_isinstance (by decide +kernel) (pa_cons (pe_ixG (hu_of hr) (pe_ixG (hu_of hr) (pv 2) pe_int (fun _ _ => rfl)) pe_int (fun _ _ => rfl)) (pa_cons (pe_bltn (v := .ty "tuple") rfl T.n_tuple (by decide +kernel) rfl) pa_nil))) (by intro _; rfl)))))) (pss_one (ps_ret pe_bl)) pss_nil)
  (pss_one (ps_ret (pe_cmpR (op_eqG (hu2_of hr)) (pe_lc (own := [("_law_at", 8)]) (g := (gName 8)) (tt := tYes) rfl sc_law_same.nd (pi_seq (pe_ixG (hu_of hr) (pe_ixG (hu_of hr) (pv 2) pe_int (fun _ _ => rfl)) pe_int (fun _ _ => rfl))) (blkOk_by (by kernel_rfl)) (fun _ _ _ _ _ => (pg_name (i := 8) sc_law_same.nd rfl (by first | exact Or.inl rfl | exact Or.inr rfl))) (fun _ _ _ _ _ => pts_nil) (fun _ _ _ _ _ => (pe_mcal (pv 0) c_Nodes_told hr (pa_cons (pv 8) pa_nil)))) (pe_lc (own := [("_law_at", 8)]) (g := (gName 8)) (tt := tYes) rfl sc_law_same.nd (pi_seq (pe_ixG (hu_of hr) (pe_ixG (hu_of hr) (pv 3) pe_int (fun _ _ => rfl)) pe_int (fun _ _ => rfl))) (blkOk_by (by kernel_rfl)) (fun _ _ _ _ _ => (pg_name (i := 8) sc_law_same.nd rfl (by first | exact Or.inl rfl | exact Or.inr rfl))) (fun _ _ _ _ _ => pts_nil) (fun _ _ _ _ _ => (pe_ixG (hu_of hr) (pe_ixG (hu_of hr) (pv 1) pe_int (fun _ _ => rfl)) (pv 8) (fun _ _ => rfl)))) (nomark _)))))))))
abbrev st_law : Stmt := topS 56
theorem sc_law : FnScope ["_law_script", "_law_pen_here", "_law_program_here", "_law_ground_here", "_law_sizes", "_law_name", "_law_names_here", "_law_body_here", "_law_turn", "_law_nodes", "_law_table", "_law_first", "_law_many_here", "_law_at", "_law_place", "_law_things", "_law_j", "_law_number_here", "_law_due", "_law_worths", "_law_k", "_law_handed", "_law_here"] ["_law_script"] (defScope st_law) := ⟨rfl, rfl, rfl, by decide +kernel, rfl, by decide +kernel, by decide +kernel⟩
theorem mkl_law {P : Program} {w : World} {K : PySem.W.Frag} {mg : Str → Option Value} {base : Heap} {fd : FuncData} (F : FunD K "law" "law" (defArgs (topS 56)) (defBody (topS 56)) (defScope (topS 56)) [] [] (He.ga K "law") fd) (T : TX w K mg) {j : Nat} {sp : Sp} {s_law_pen s_law_program s_law_grounds s_law_many s_Nodes___init__ s_law_draw s_Nodes_node s_law_node s_law_behind s_law_same s_behind s_law_wish : Sp} (c_law_pen : Cal P w K mg base j "_law_pen" s_law_pen) (c_law_program : Cal P w K mg base j "_law_program" s_law_program) (c_law_grounds : Cal P w K mg base j "_law_grounds" s_law_grounds) (c_law_many : Cal P w K mg base j "_law_many" s_law_many) (c_Nodes___init__ : KCal P w K mg base j "Nodes" (He.ga K "Nodes") s_Nodes___init__) (c_law_draw : Cal P w K mg base j "_law_draw" s_law_draw) (c_Nodes_node : MCal P w K mg base j (He.ga K "Nodes") "node" s_Nodes_node) (c_law_node : Cal P w K mg base j "_law_node" s_law_node) (c_law_behind : Cal P w K mg base j "_law_behind" s_law_behind) (c_law_same : Cal P w K mg base j "_law_same" s_law_same) (c_behind : Cal P w K mg base j "behind" s_behind) (c_law_wish : Cal P w K mg base j "_law_wish" s_law_wish)
    (pure_ : PureOk 1 sp (t_law K w s_law_pen s_law_program s_law_grounds s_law_many s_Nodes___init__ s_law_draw s_Nodes_node s_law_node s_law_behind s_law_same s_behind s_law_wish) 23) : FnOk P w K mg base CX0 (j + 1) (He.ga K "law") fd ["_law_script"] sp := by
  refine F.ok sc_law pure_.len fun cdv A outer s H vs Q E hr h => ?_
  refine ⟨t_law K w s_law_pen s_law_program s_law_grounds s_law_many s_Nodes___init__ s_law_draw s_Nodes_node s_law_node s_law_behind s_law_same s_behind s_law_wish, PSs.nox ?_, pure_.run vs H Q E h⟩
  exact (pss_cons (ps_set (i := 1) sc_law.nd rfl (Or.inr rfl) (pe_cal c_law_pen hr rfl (pa_cons (pv 0) pa_nil)))
  (pss_cons (ps_set (i := 2) sc_law.nd rfl (Or.inl rfl) (pe_cal c_law_program hr rfl (pa_cons (pv 1) pa_nil)))
  (pss_cons (ps_set (i := 3) sc_law.nd rfl (Or.inl rfl) (pe_cal c_law_grounds hr rfl (pa_cons (pv 2) pa_nil)))
  (pss_cons (ps_set (i := 4) sc_law.nd rfl (Or.inl rfl) (pe_lstN pa_nil))
  (pss_cons (ps_for PassesOwn.never rfl (pi_seq (pe_op op_addG (pe_ixG (hu_of hr) (pv 2) pe_int (fun _ _ => rfl)) (pe_tupN (pa_cons (pe_tupN (pa_cons pe_str (pa_cons (pe_tupN pa_nil) (pa_cons (pe_ixG (hu_of hr) (pv 2) pe_int (fun _ _ => rfl)) pa_nil)))) pa_nil)))) (pg_tup rfl (pgs_cons (pg_name (i := 5) sc_law.nd rfl (by first | exact Or.inl rfl | exact Or.inr rfl)) (pgs_cons (pg_name (i := 6) sc_law.nd rfl (by first | exact Or.inl rfl | exact Or.inr rfl)) (pgs_cons (pg_name (i := 7) sc_law.nd rfl (by first | exact Or.inl rfl | exact Or.inr rfl)) pgs_nil)))) (pss_one (ps_set (i := 4) sc_law.nd rfl (Or.inl rfl) (pe_op op_addG (pv 4) (pe_op op_repG (pe_lstN (pa_cons (pe_callB call_lenG (by rfl) T.n_len (by decide +kernel) (pa_cons (pv 6) pa_nil)) pa_nil)) (pe_cal c_law_many hr rfl (pa_cons (pv 7) pa_nil)))))))
  (pss_cons (ps_for PassesOwn.never rfl (pi_range1 (by rfl) T.n_range (pa_cons (pe_callB (call_max2 rfl) (by rfl) T.n_max (by decide +kernel) (pa_cons pe_int (pa_cons (pe_callB (call_min2 rfl) (by rfl) T.n_min (by decide +kernel) (pa_cons pe_int (pa_cons (pe_callB call_lenG (by rfl) T.n_len (by decide +kernel) (pa_cons (pv 0) pa_nil)) pa_nil))) pa_nil))) pa_nil)) (pg_name (i := 8) sc_law.nd rfl (by first | exact Or.inl rfl | exact Or.inr rfl)) (pss_cons (ps_par (i := 9) (j := 10) (by rfl) sc_law.nd rfl rfl (by decide) rfl rfl (pa_cons (pe_kcal c_Nodes___init__ hr rfl (pa_cons (pv 2) pa_nil)) (pa_cons (pe_lstN (pa_cons (pe_lstN pa_nil) (pa_cons pe_dnewKN (pa_cons pe_bl pa_nil)))) pa_nil)) (by rfl))
  (pss_cons (ps_set (i := 11) sc_law.nd rfl (Or.inl rfl) (pe_ixG (hu_of hr) (pe_ixG (hu_of hr) (pe_ixG (hu_of hr) (pv 3) pe_int (fun _ _ => rfl)) pe_str (fun _ _ => rfl)) pe_int (fun _ _ => rfl)))
  (pss_cons (ps_set (i := 12) sc_law.nd rfl (Or.inr rfl) (pe_op op_addG pe_int (pe_cal c_law_draw hr rfl (pa_cons (pv 1) (pa_cons (pe_cal c_law_many hr rfl (pa_cons (pe_ixG (hu_of hr) (pv 2) pe_int (fun _ _ => rfl)) pa_nil)) pa_nil)))))
  (pss_cons (ps_for PassesOwn.never rfl (pi_range1 (by rfl) T.n_range (pa_cons (pv 12) pa_nil)) (pg_name (i := 13) sc_law.nd rfl (by first | exact Or.inl rfl | exact Or.inr rfl)) (pss_one (ps_if (pt_cmpR (op_neG (hu2_of hr)) (pe_mcal (pv 9) c_Nodes_node hr (pa_cons (pe_op op_addG (pv 11) (pv 13)) (pa_cons (pe_tupN pa_nil) pa_nil))) (pe_cal c_law_node hr rfl (pa_cons (pv 10) (pa_cons (pe_op op_addG (pv 11) (pv 13)) (pa_cons (pe_tupN pa_nil) pa_nil)))) (nomark _)) (pss_one (ps_ret pe_bl)) pss_nil)))
  (pss_cons (ps_set (i := 14) sc_law.nd rfl (Or.inl rfl) (pe_cal c_law_draw hr rfl (pa_cons (pv 1) (pa_cons (pe_callB call_lenG (by rfl) T.n_len (by decide +kernel) (pa_cons (pv 4) pa_nil)) pa_nil))))
  (pss_cons (ps_set (i := 15) sc_law.nd rfl (Or.inl rfl) (pe_callTy call_tupleG (by rfl) T.n_tuple (by decide +kernel) (pa_cons (pe_lc (own := [("_law_j", 16)]) (g := (gName 16)) (tt := tYes) rfl sc_law.nd (pi_range1 (by rfl) T.n_range (pa_cons (pe_ixG (hu_of hr) (pv 4) (pv 14) (fun _ _ => rfl)) pa_nil)) (blkOk_by (by kernel_rfl)) (fun _ _ _ _ _ => (pg_name (i := 16) sc_law.nd rfl (by first | exact Or.inl rfl | exact Or.inr rfl))) (fun _ _ _ _ _ => pts_nil) (fun _ _ _ _ _ => (pe_cal c_law_draw hr rfl (pa_cons (pv 1) (pa_cons (pv 12) pa_nil))))) pa_nil)))
  (pss_cons (ps_set (i := 17) sc_law.nd rfl (Or.inl rfl) (pe_mcal (pv 9) c_Nodes_node hr (pa_cons (pv 14) (pa_cons (pv 15) pa_nil))))
  (pss_cons (ps_set (i := 18) sc_law.nd rfl (Or.inl rfl) (pe_cal c_law_node hr rfl (pa_cons (pv 10) (pa_cons (pv 14) (pa_cons (pv 15) pa_nil)))))
  (pss_cons (ps_set (i := 19) sc_law.nd rfl (Or.inl rfl) (pe_lstN pa_nil))
  (pss_one (ps_for PassesOwn.never rfl (pi_range1 (by rfl) T.n_range (pa_cons pe_int pa_nil)) (pg_name (i := 20) sc_law.nd rfl (by first | exact Or.inl rfl | exact Or.inr rfl)) (pss_cons (ps_set (i := 21) sc_law.nd rfl (Or.inl rfl) (pe_callTy (call_listG rfl) (by rfl) T.n_list (by decide +kernel) (pa_cons (pv 19) pa_nil)))
  (pss_cons (ps_set (i := 22) sc_law.nd rfl (Or.inl rfl) (pe_cal c_law_behind hr rfl (pa_cons (pv 3) (pa_cons (pv 10) (pa_cons (pv 18) (pa_cons (pv 19) pa_nil))))))
  (pss_cons (ps_if (PW.pt (pw_or (pt_not (pt_tru (pe_cal c_law_same hr rfl (pa_cons (pv 9) (pa_cons (pv 10) (pa_cons (pe_cal c_behind hr rfl (pa_cons (pv 9) (pa_cons (pv 17) (pa_cons (pv 21) pa_nil)))) (pa_cons (pv 22) pa_nil))))) (by intro _; rfl))) (pw_or1 (pt_cmpR (op_neG (hu2_of hr)) (pv 21) (pv 19) (nomark _))))) (pss_one (ps_ret pe_bl)) pss_nil)
  (pss_cons (ps_if (pt_cmpR (op_notInG (hu_of hr)) (pe_ixG (hu_of hr) (pv 22) pe_int (fun _ _ => rfl)) (pe_tupN (pa_cons pe_str (pa_cons pe_str pa_nil))) (by rfl)) (pss_one ps_break) pss_nil)
  (pss_one (ps_expr (pe_bm PySem.F.plainAttrs_list PySem.F.slot_list_append PySem.F.type_list_append mt_appendG (pv 19) (pa_cons (pe_cal c_law_wish hr rfl (pa_cons (pv 1) (pa_cons (pv 2) (pa_cons (pe_ixG (hu_of hr) (pe_ixG (hu_of hr) (pe_ixG (hu_of hr) (pe_ixG (hu_of hr) (pv 3) pe_int (fun _ _ => rfl)) (pv 14) (fun _ _ => rfl)) pe_int (fun _ _ => rfl)) pe_int (fun _ _ => rfl)) (pa_cons (pv 12) pa_nil))))) pa_nil))))))))))))))))))))
  (pss_one (ps_ret pe_bl))))))))
theorem nv_law_part {P : Program} {w : World} {K : PySem.W.Frag} {mg : Str → Option Value} {base : Heap} (T : TX w K mg) {sp : Sp} (no : ∀ vs H Q E, ¬ sp vs H Q E) : Cal P w K mg base 1 "_law_part" sp := by
  obtain ⟨fd, F⟩ := T.d_law_part
  exact cal_mk F T.f_law_part sc_law_part (F.bindsN fun _ _ _ _ _ _ us hl => match us, hl with | [_, _, _, _, _], _ => rfl) (fun vs H Q E h => (no _ _ _ _ h).elim) fun cdv A outer s H vs Q E hr h => (no _ _ _ _ h).elim
theorem nv_grounds {P : Program} {w : World} {K : PySem.W.Frag} {mg : Str → Option Value} {base : Heap} (T : TX w K mg) {sp : Sp} (no : ∀ vs H Q E, ¬ sp vs H Q E) : Cal P w K mg base 1 "grounds" sp := by
  obtain ⟨fd, F⟩ := T.d_grounds
  exact cal_mk F T.f_grounds sc_grounds (F.bindsN fun _ _ _ _ _ _ us hl => match us, hl with | [_, _, _], _ => rfl) (fun vs H Q E h => (no _ _ _ _ h).elim) fun cdv A outer s H vs Q E hr h => (no _ _ _ _ h).elim
theorem nv_law_many {P : Program} {w : World} {K : PySem.W.Frag} {mg : Str → Option Value} {base : Heap} (T : TX w K mg) {sp : Sp} (no : ∀ vs H Q E, ¬ sp vs H Q E) : Cal P w K mg base 1 "_law_many" sp := by
  obtain ⟨fd, F⟩ := T.d_law_many
  exact cal_mk F T.f_law_many sc_law_many (F.bindsN fun _ _ _ _ _ _ us hl => match us, hl with | [_], _ => rfl) (fun vs H Q E h => (no _ _ _ _ h).elim) fun cdv A outer s H vs Q E hr h => (no _ _ _ _ h).elim
theorem nv_law_ground {P : Program} {w : World} {K : PySem.W.Frag} {mg : Str → Option Value} {base : Heap} (T : TX w K mg) {sp : Sp} (no : ∀ vs H Q E, ¬ sp vs H Q E) : Cal P w K mg base 1 "_law_ground" sp := by
  obtain ⟨fd, F⟩ := T.d_law_ground
  exact cal_mk F T.f_law_ground sc_law_ground (F.bindsN fun _ _ _ _ _ _ us hl => match us, hl with | [_, _, _], _ => rfl) (fun vs H Q E h => (no _ _ _ _ h).elim) fun cdv A outer s H vs Q E hr h => (no _ _ _ _ h).elim
theorem tx_mk {w : World} {K : PySem.W.Frag} {h h2 : Heap} {mg : Str → Option Value} (X : K.In h) (G : h.Ns mainGlobals mg) (c : He.SaysX hfa hfn hts [] hex w h2 K) : TX w K mg := by
  have hm := c.more
  unfold hex at hm
  simp only [Bool.and_eq_true] at hm
  exact {
    d_is_small := c.t.d.def_ 0 rfl
    f_is_small := He.glo_ok X G (c.t.d.fact 0 (f := .glo "is_small") rfl)
    d_within := c.t.d.def_ 1 rfl
    f_within := He.glo_ok X G (c.t.d.fact 1 (f := .glo "within") rfl)
    d_in_order := c.t.d.def_ 2 rfl
    f_in_order := He.glo_ok X G (c.t.d.fact 2 (f := .glo "in_order") rfl)
    d_many_in := c.t.d.def_ 3 rfl
    f_many_in := He.glo_ok X G (c.t.d.fact 3 (f := .glo "many_in") rfl)
    d_bodies := c.t.d.def_ 4 rfl
    f_bodies := He.glo_ok X G (c.t.d.fact 4 (f := .glo "bodies") rfl)
    d_number_of := c.t.d.def_ 5 rfl
    f_number_of := He.glo_ok X G (c.t.d.fact 5 (f := .glo "number_of") rfl)
    d_things_of := c.t.d.def_ 6 rfl
    f_things_of := He.glo_ok X G (c.t.d.fact 6 (f := .glo "things_of") rfl)
    d_wants := c.t.d.def_ 7 rfl
    f_wants := He.glo_ok X G (c.t.d.fact 7 (f := .glo "wants") rfl)
    d_body_place := c.t.d.def_ 8 rfl
    f_body_place := He.glo_ok X G (c.t.d.fact 8 (f := .glo "body_place") rfl)
    d_reckoned := c.t.d.def_ 9 rfl
    f_reckoned := He.glo_ok X G (c.t.d.fact 9 (f := .glo "reckoned") rfl)
    d_passed := c.t.d.def_ 10 rfl
    f_passed := He.glo_ok X G (c.t.d.fact 10 (f := .glo "passed") rfl)
    d_called := c.t.d.def_ 11 rfl
    f_called := He.glo_ok X G (c.t.d.fact 11 (f := .glo "called") rfl)
    d_of_fun := c.t.d.def_ 12 rfl
    f_of_fun := He.glo_ok X G (c.t.d.fact 12 (f := .glo "of_fun") rfl)
    d_of_give := c.t.d.def_ 13 rfl
    f_of_give := He.glo_ok X G (c.t.d.fact 13 (f := .glo "of_give") rfl)
    d_of_numbers := c.t.d.def_ 14 rfl
    f_of_numbers := He.glo_ok X G (c.t.d.fact 14 (f := .glo "of_numbers") rfl)
    d_of_when := c.t.d.def_ 15 rfl
    f_of_when := He.glo_ok X G (c.t.d.fact 15 (f := .glo "of_when") rfl)
    d_of_side := c.t.d.def_ 16 rfl
    f_of_side := He.glo_ok X G (c.t.d.fact 16 (f := .glo "of_side") rfl)
    d_behind := c.t.d.def_ 17 rfl
    f_behind := He.glo_ok X G (c.t.d.fact 17 (f := .glo "behind") rfl)
    d_inner_places := c.t.d.def_ 18 rfl
    f_inner_places := He.glo_ok X G (c.t.d.fact 18 (f := .glo "inner_places") rfl)
    d_with_rows := c.t.d.def_ 19 rfl
    f_with_rows := He.glo_ok X G (c.t.d.fact 19 (f := .glo "with_rows") rfl)
    d_grounds := c.t.d.def_ 20 rfl
    f_grounds := He.glo_ok X G (c.t.d.fact 20 (f := .glo "grounds") rfl)
    d_ground_of := c.t.d.def_ 21 rfl
    f_ground_of := He.glo_ok X G (c.t.d.fact 21 (f := .glo "ground_of") rfl)
    d_Nodes___init__ := c.t.d.def_ 22 rfl
    i_Nodes := He.mkr_ok (c.t.d.fact 22 (f := .mkr "Nodes") rfl)
    d_Nodes_part := c.t.d.def_ 23 rfl
    m_Nodes_part := He.meth_ok (c.t.d.fact 23 (f := .meth "Nodes" "part") rfl)
    d_Nodes_inner := c.t.d.def_ 24 rfl
    m_Nodes_inner := He.meth_ok (c.t.d.fact 24 (f := .meth "Nodes" "inner") rfl)
    d_Nodes_door := c.t.d.def_ 25 rfl
    m_Nodes_door := He.meth_ok (c.t.d.fact 25 (f := .meth "Nodes" "door") rfl)
    d_Nodes_node := c.t.d.def_ 26 rfl
    m_Nodes_node := He.meth_ok (c.t.d.fact 26 (f := .meth "Nodes" "node") rfl)
    d_Nodes_seen := c.t.d.def_ 27 rfl
    m_Nodes_seen := He.meth_ok (c.t.d.fact 27 (f := .meth "Nodes" "seen") rfl)
    d_Nodes_told := c.t.d.def_ 28 rfl
    m_Nodes_told := He.meth_ok (c.t.d.fact 28 (f := .meth "Nodes" "told") rfl)
    d_law_pen := c.t.d.def_ 29 rfl
    f_law_pen := He.glo_ok X G (c.t.d.fact 29 (f := .glo "_law_pen") rfl)
    d_law_draw := c.t.d.def_ 30 rfl
    f_law_draw := He.glo_ok X G (c.t.d.fact 30 (f := .glo "_law_draw") rfl)
    d_law_names := c.t.d.def_ 31 rfl
    f_law_names := He.glo_ok X G (c.t.d.fact 31 (f := .glo "_law_names") rfl)
    d_law_number := c.t.d.def_ 32 rfl
    f_law_number := He.glo_ok X G (c.t.d.fact 32 (f := .glo "_law_number") rfl)
    d_law_leaf := c.t.d.def_ 33 rfl
    f_law_leaf := He.glo_ok X G (c.t.d.fact 33 (f := .glo "_law_leaf") rfl)
    d_law_fits := c.t.d.def_ 34 rfl
    f_law_fits := He.glo_ok X G (c.t.d.fact 34 (f := .glo "_law_fits") rfl)
    d_law_call := c.t.d.def_ 35 rfl
    f_law_call := He.glo_ok X G (c.t.d.fact 35 (f := .glo "_law_call") rfl)
    d_law_let := c.t.d.def_ 36 rfl
    f_law_let := He.glo_ok X G (c.t.d.fact 36 (f := .glo "_law_let") rfl)
    d_law_part := c.t.d.def_ 37 rfl
    f_law_part := He.glo_ok X G (c.t.d.fact 37 (f := .glo "_law_part") rfl)
    d_law_loop := c.t.d.def_ 38 rfl
    f_law_loop := He.glo_ok X G (c.t.d.fact 38 (f := .glo "_law_loop") rfl)
    d_law_body := c.t.d.def_ 39 rfl
    f_law_body := He.glo_ok X G (c.t.d.fact 39 (f := .glo "_law_body") rfl)
    d_law_program := c.t.d.def_ 40 rfl
    f_law_program := He.glo_ok X G (c.t.d.fact 40 (f := .glo "_law_program") rfl)
    d_law_ground := c.t.d.def_ 41 rfl
    f_law_ground := He.glo_ok X G (c.t.d.fact 41 (f := .glo "_law_ground") rfl)
    d_law_inner := c.t.d.def_ 42 rfl
    f_law_inner := He.glo_ok X G (c.t.d.fact 42 (f := .glo "_law_inner") rfl)
    d_law_many := c.t.d.def_ 43 rfl
    f_law_many := He.glo_ok X G (c.t.d.fact 43 (f := .glo "_law_many") rfl)
    d_law_grounds := c.t.d.def_ 44 rfl
    f_law_grounds := He.glo_ok X G (c.t.d.fact 44 (f := .glo "_law_grounds") rfl)
    d_law_node := c.t.d.def_ 45 rfl
    f_law_node := He.glo_ok X G (c.t.d.fact 45 (f := .glo "_law_node") rfl)
    d_law_seen := c.t.d.def_ 46 rfl
    f_law_seen := He.glo_ok X G (c.t.d.fact 46 (f := .glo "_law_seen") rfl)
    d_law_passed := c.t.d.def_ 47 rfl
    f_law_passed := He.glo_ok X G (c.t.d.fact 47 (f := .glo "_law_passed") rfl)
    d_law_two := c.t.d.def_ 48 rfl
    f_law_two := He.glo_ok X G (c.t.d.fact 48 (f := .glo "_law_two") rfl)
    d_law_given := c.t.d.def_ 49 rfl
    f_law_given := He.glo_ok X G (c.t.d.fact 49 (f := .glo "_law_given") rfl)
    d_law_behind := c.t.d.def_ 50 rfl
    f_law_behind := He.glo_ok X G (c.t.d.fact 50 (f := .glo "_law_behind") rfl)
    d_law_worth := c.t.d.def_ 51 rfl
    f_law_worth := He.glo_ok X G (c.t.d.fact 51 (f := .glo "_law_worth") rfl)
    d_law_wish := c.t.d.def_ 52 rfl
    f_law_wish := He.glo_ok X G (c.t.d.fact 52 (f := .glo "_law_wish") rfl)
    d_law_same := c.t.d.def_ 53 rfl
    f_law_same := He.glo_ok X G (c.t.d.fact 53 (f := .glo "_law_same") rfl)
    d_law := c.t.d.def_ 54 rfl
    f_law := He.glo_ok X G (c.t.d.fact 54 (f := .glo "law") rfl)
    c_Nodes := He.cls_ok (c.t.d.fact 55 (f := .cls "Nodes") rfl)
    g_Nodes := He.glo_ok X G (c.t.d.fact 56 (f := .glo "Nodes") rfl)
    a_Nodes_program := He.noat_ok (c.t.d.fact 57 (f := .noat "Nodes" "program") rfl)
    a_Nodes_ground := He.noat_ok (c.t.d.fact 58 (f := .noat "Nodes" "ground") rfl)
    a_Nodes_kept := He.noat_ok (c.t.d.fact 59 (f := .noat "Nodes" "kept") rfl)
    a_Nodes_numbers := He.noat_ok (c.t.d.fact 60 (f := .noat "Nodes" "numbers") rfl)
    a_Nodes_closed := He.noat_ok (c.t.d.fact 61 (f := .noat "Nodes" "closed") rfl)
    a_Nodes_doors := He.noat_ok (c.t.d.fact 62 (f := .noat "Nodes" "doors") rfl)
    n_abs := He.free_ok X G (c.t.d.fact 63 (f := .free "abs") rfl)
    n_list := He.free_ok X G (c.t.d.fact 64 (f := .free "list") rfl)
    n_len := He.free_ok X G (c.t.d.fact 65 (f := .free "len") rfl)
    n_sum := He.free_ok X G (c.t.d.fact 66 (f := .free "sum") rfl)
    n_int := He.free_ok X G (c.t.d.fact 67 (f := .free "int") rfl)
    n_dict := He.free_ok X G (c.t.d.fact 68 (f := .free "dict") rfl)
    n_zip := He.free_ok X G (c.t.d.fact 69 (f := .free "zip") rfl)
    n_enumerate := He.free_ok X G (c.t.d.fact 70 (f := .free "enumerate") rfl)
    n_tuple := He.free_ok X G (c.t.d.fact 71 (f := .free "tuple") rfl)
    n_max := He.free_ok X G (c.t.d.fact 72 (f := .free "max") rfl)
    n_range := He.free_ok X G (c.t.d.fact 73 (f := .free "range") rfl)
    n_min := He.free_ok X G (c.t.d.fact 74 (f := .free "min") rfl)
    n_isinstance := He.free_ok X G (c.t.d.fact 75 (f := .free "isinstance") rfl)
    n_bool := He.free_ok X G (c.t.d.fact 76 (f := .free "bool") rfl)
    g_PARTS := He.glo_ok X G (c.t.d.fact 77 (f := .glo "PARTS") rfl)
    k_PARTS := ktab_of (kvs := [("give", .int 2), ("plus", .int 2), ("less", .int 2), ("times", .int 2), ("below", .int 2), ("when", .int 3), ("pair", .int 2), ("left", .int 1), ("right", .int 1)]) (tab_at c.t 0 rfl) hm.1
    g_OPERATIONS := He.glo_ok X G (c.t.d.fact 78 (f := .glo "OPERATIONS") rfl)
    t_OPERATIONS := fun H => He.tupB_ok hm.2 H
  }
section
variable {P : Program} {w : World} {K : PySem.W.Frag} {mg : Str → Option Value} {base : Heap}
theorem law_ok (T : TX w K mg) {fd : FuncData} (F : FunD K "law" "law" (defArgs (topS 56)) (defBody (topS 56)) (defScope (topS 56)) [] [] (He.ga K "law") fd) : FnOk P w K mg base CX0 31 (He.ga K "law") fd ["_law_script"] (spLaw K) := by
  have c_law_pen : Cal P w K mg base 1 "_law_pen" (spPen K) := mk_law_pen (j := 0) T  (pure_pen)
  have c_law_draw : Cal P w K mg base 1 "_law_draw" (spDraw) := mk_law_draw (j := 0) T  (pure_draw)
  have c_law_names : Cal P w K mg base 2 "_law_names" (spNames) := mk_law_names (j := 1) T (c_law_draw.mono (by decide)) (pure_names)
  have c_law_fits : Cal P w K mg base 1 "_law_fits" (spFits) := mk_law_fits (j := 0) T  (pure_fits)
  have c_law_number : Cal P w K mg base 2 "_law_number" (spNumber) := mk_law_number (j := 1) T (c_law_draw.mono (by decide)) (pure_number)
  have c_law_leaf : Cal P w K mg base 3 "_law_leaf" (spLeaf) := mk_law_leaf (j := 2) T (c_law_draw.mono (by decide)) (c_law_number.mono (by decide)) (pure_leaf)
  have c_law_part_0 : Cal P w K mg base 1 "_law_part" (spPart 0) := nv_law_part T (fun vs H Q E ⟨_, _, _, _, _, _, _, _, _, _, _, _, _, _, _, h, _⟩ => Nat.not_lt_zero _ h)
  have c_law_call_1 : Cal P w K mg base 4 "_law_call" (spCallP 0) := mk_law_call (j := 3) T (c_law_draw.mono (by decide)) (c_law_fits.mono (by decide)) (c_law_leaf.mono (by decide)) (c_law_part_0.mono (by decide)) (pure_callp)
  have c_law_let_1 : Cal P w K mg base 4 "_law_let" (spLet 0) := mk_law_let (j := 3) T (c_law_draw.mono (by decide)) (c_law_fits.mono (by decide)) (c_law_leaf.mono (by decide)) (c_law_part_0.mono (by decide)) (pure_letp)
  have c_law_part_1 : Cal P w K mg base 5 "_law_part" (spPart 1) := mk_law_part (j := 4) T (c_law_draw.mono (by decide)) (c_law_leaf.mono (by decide)) (c_law_call_1.mono (by decide)) (c_law_let_1.mono (by decide)) (c_law_fits.mono (by decide)) (c_law_part_0.mono (by decide)) (pure_part)
  have c_law_call_2 : Cal P w K mg base 6 "_law_call" (spCallP 1) := mk_law_call (j := 5) T (c_law_draw.mono (by decide)) (c_law_fits.mono (by decide)) (c_law_leaf.mono (by decide)) (c_law_part_1.mono (by decide)) (pure_callp)
  have c_law_let_2 : Cal P w K mg base 6 "_law_let" (spLet 1) := mk_law_let (j := 5) T (c_law_draw.mono (by decide)) (c_law_fits.mono (by decide)) (c_law_leaf.mono (by decide)) (c_law_part_1.mono (by decide)) (pure_letp)
  have c_law_part_2 : Cal P w K mg base 7 "_law_part" (spPart 2) := mk_law_part (j := 6) T (c_law_draw.mono (by decide)) (c_law_leaf.mono (by decide)) (c_law_call_2.mono (by decide)) (c_law_let_2.mono (by decide)) (c_law_fits.mono (by decide)) (c_law_part_1.mono (by decide)) (pure_part)
  have c_law_call_3 : Cal P w K mg base 8 "_law_call" (spCallP 2) := mk_law_call (j := 7) T (c_law_draw.mono (by decide)) (c_law_fits.mono (by decide)) (c_law_leaf.mono (by decide)) (c_law_part_2.mono (by decide)) (pure_callp)
  have c_law_let_3 : Cal P w K mg base 8 "_law_let" (spLet 2) := mk_law_let (j := 7) T (c_law_draw.mono (by decide)) (c_law_fits.mono (by decide)) (c_law_leaf.mono (by decide)) (c_law_part_2.mono (by decide)) (pure_letp)
  have c_law_part_3 : Cal P w K mg base 9 "_law_part" (spPart 3) := mk_law_part (j := 8) T (c_law_draw.mono (by decide)) (c_law_leaf.mono (by decide)) (c_law_call_3.mono (by decide)) (c_law_let_3.mono (by decide)) (c_law_fits.mono (by decide)) (c_law_part_2.mono (by decide)) (pure_part)
  have c_law_call_4 : Cal P w K mg base 10 "_law_call" (spCallP 3) := mk_law_call (j := 9) T (c_law_draw.mono (by decide)) (c_law_fits.mono (by decide)) (c_law_leaf.mono (by decide)) (c_law_part_3.mono (by decide)) (pure_callp)
  have c_law_let_4 : Cal P w K mg base 10 "_law_let" (spLet 3) := mk_law_let (j := 9) T (c_law_draw.mono (by decide)) (c_law_fits.mono (by decide)) (c_law_leaf.mono (by decide)) (c_law_part_3.mono (by decide)) (pure_letp)
  have c_law_part_4 : Cal P w K mg base 11 "_law_part" (spPart 4) := mk_law_part (j := 10) T (c_law_draw.mono (by decide)) (c_law_leaf.mono (by decide)) (c_law_call_4.mono (by decide)) (c_law_let_4.mono (by decide)) (c_law_fits.mono (by decide)) (c_law_part_3.mono (by decide)) (pure_part)
  have c_law_call_5 : Cal P w K mg base 12 "_law_call" (spCallP 4) := mk_law_call (j := 11) T (c_law_draw.mono (by decide)) (c_law_fits.mono (by decide)) (c_law_leaf.mono (by decide)) (c_law_part_4.mono (by decide)) (pure_callp)
  have c_law_let_5 : Cal P w K mg base 12 "_law_let" (spLet 4) := mk_law_let (j := 11) T (c_law_draw.mono (by decide)) (c_law_fits.mono (by decide)) (c_law_leaf.mono (by decide)) (c_law_part_4.mono (by decide)) (pure_letp)
  have c_law_part_5 : Cal P w K mg base 13 "_law_part" (spPart 5) := mk_law_part (j := 12) T (c_law_draw.mono (by decide)) (c_law_leaf.mono (by decide)) (c_law_call_5.mono (by decide)) (c_law_let_5.mono (by decide)) (c_law_fits.mono (by decide)) (c_law_part_4.mono (by decide)) (pure_part)
  have c_law_call_6 : Cal P w K mg base 14 "_law_call" (spCallP 5) := mk_law_call (j := 13) T (c_law_draw.mono (by decide)) (c_law_fits.mono (by decide)) (c_law_leaf.mono (by decide)) (c_law_part_5.mono (by decide)) (pure_callp)
  have c_law_let_6 : Cal P w K mg base 14 "_law_let" (spLet 5) := mk_law_let (j := 13) T (c_law_draw.mono (by decide)) (c_law_fits.mono (by decide)) (c_law_leaf.mono (by decide)) (c_law_part_5.mono (by decide)) (pure_letp)
  have c_law_part_6 : Cal P w K mg base 15 "_law_part" (spPart 6) := mk_law_part (j := 14) T (c_law_draw.mono (by decide)) (c_law_leaf.mono (by decide)) (c_law_call_6.mono (by decide)) (c_law_let_6.mono (by decide)) (c_law_fits.mono (by decide)) (c_law_part_5.mono (by decide)) (pure_part)
  have c_law_call_7 : Cal P w K mg base 16 "_law_call" (spCallP 6) := mk_law_call (j := 15) T (c_law_draw.mono (by decide)) (c_law_fits.mono (by decide)) (c_law_leaf.mono (by decide)) (c_law_part_6.mono (by decide)) (pure_callp)
  have c_law_let_7 : Cal P w K mg base 16 "_law_let" (spLet 6) := mk_law_let (j := 15) T (c_law_draw.mono (by decide)) (c_law_fits.mono (by decide)) (c_law_leaf.mono (by decide)) (c_law_part_6.mono (by decide)) (pure_letp)
  have c_law_part_7 : Cal P w K mg base 17 "_law_part" (spPart 7) := mk_law_part (j := 16) T (c_law_draw.mono (by decide)) (c_law_leaf.mono (by decide)) (c_law_call_7.mono (by decide)) (c_law_let_7.mono (by decide)) (c_law_fits.mono (by decide)) (c_law_part_6.mono (by decide)) (pure_part)
  have c_law_call_8 : Cal P w K mg base 18 "_law_call" (spCallP 7) := mk_law_call (j := 17) T (c_law_draw.mono (by decide)) (c_law_fits.mono (by decide)) (c_law_leaf.mono (by decide)) (c_law_part_7.mono (by decide)) (pure_callp)
  have c_law_let_8 : Cal P w K mg base 18 "_law_let" (spLet 7) := mk_law_let (j := 17) T (c_law_draw.mono (by decide)) (c_law_fits.mono (by decide)) (c_law_leaf.mono (by decide)) (c_law_part_7.mono (by decide)) (pure_letp)
  have c_law_part_8 : Cal P w K mg base 19 "_law_part" (spPart 8) := mk_law_part (j := 18) T (c_law_draw.mono (by decide)) (c_law_leaf.mono (by decide)) (c_law_call_8.mono (by decide)) (c_law_let_8.mono (by decide)) (c_law_fits.mono (by decide)) (c_law_part_7.mono (by decide)) (pure_part)
  have c_law_call_9 : Cal P w K mg base 20 "_law_call" (spCallP 8) := mk_law_call (j := 19) T (c_law_draw.mono (by decide)) (c_law_fits.mono (by decide)) (c_law_leaf.mono (by decide)) (c_law_part_8.mono (by decide)) (pure_callp)
  have c_law_let_9 : Cal P w K mg base 20 "_law_let" (spLet 8) := mk_law_let (j := 19) T (c_law_draw.mono (by decide)) (c_law_fits.mono (by decide)) (c_law_leaf.mono (by decide)) (c_law_part_8.mono (by decide)) (pure_letp)
  have c_law_part_9 : Cal P w K mg base 21 "_law_part" (spPart 9) := mk_law_part (j := 20) T (c_law_draw.mono (by decide)) (c_law_leaf.mono (by decide)) (c_law_call_9.mono (by decide)) (c_law_let_9.mono (by decide)) (c_law_fits.mono (by decide)) (c_law_part_8.mono (by decide)) (pure_part)
  have c_law_call_10 : Cal P w K mg base 22 "_law_call" (spCallP 9) := mk_law_call (j := 21) T (c_law_draw.mono (by decide)) (c_law_fits.mono (by decide)) (c_law_leaf.mono (by decide)) (c_law_part_9.mono (by decide)) (pure_callp)
  have c_law_let_10 : Cal P w K mg base 22 "_law_let" (spLet 9) := mk_law_let (j := 21) T (c_law_draw.mono (by decide)) (c_law_fits.mono (by decide)) (c_law_leaf.mono (by decide)) (c_law_part_9.mono (by decide)) (pure_letp)
  have c_law_part_10 : Cal P w K mg base 23 "_law_part" (spPart 10) := mk_law_part (j := 22) T (c_law_draw.mono (by decide)) (c_law_leaf.mono (by decide)) (c_law_call_10.mono (by decide)) (c_law_let_10.mono (by decide)) (c_law_fits.mono (by decide)) (c_law_part_9.mono (by decide)) (pure_part)
  have c_law_call_11 : Cal P w K mg base 24 "_law_call" (spCallP 10) := mk_law_call (j := 23) T (c_law_draw.mono (by decide)) (c_law_fits.mono (by decide)) (c_law_leaf.mono (by decide)) (c_law_part_10.mono (by decide)) (pure_callp)
  have c_law_let_11 : Cal P w K mg base 24 "_law_let" (spLet 10) := mk_law_let (j := 23) T (c_law_draw.mono (by decide)) (c_law_fits.mono (by decide)) (c_law_leaf.mono (by decide)) (c_law_part_10.mono (by decide)) (pure_letp)
  have c_law_part_11 : Cal P w K mg base 25 "_law_part" (spPart 11) := mk_law_part (j := 24) T (c_law_draw.mono (by decide)) (c_law_leaf.mono (by decide)) (c_law_call_11.mono (by decide)) (c_law_let_11.mono (by decide)) (c_law_fits.mono (by decide)) (c_law_part_10.mono (by decide)) (pure_part)
  have c_law_call_12 : Cal P w K mg base 26 "_law_call" (spCallP 11) := mk_law_call (j := 25) T (c_law_draw.mono (by decide)) (c_law_fits.mono (by decide)) (c_law_leaf.mono (by decide)) (c_law_part_11.mono (by decide)) (pure_callp)
  have c_law_let_12 : Cal P w K mg base 26 "_law_let" (spLet 11) := mk_law_let (j := 25) T (c_law_draw.mono (by decide)) (c_law_fits.mono (by decide)) (c_law_leaf.mono (by decide)) (c_law_part_11.mono (by decide)) (pure_letp)
  have c_law_part_12 : Cal P w K mg base 27 "_law_part" (spPart 12) := mk_law_part (j := 26) T (c_law_draw.mono (by decide)) (c_law_leaf.mono (by decide)) (c_law_call_12.mono (by decide)) (c_law_let_12.mono (by decide)) (c_law_fits.mono (by decide)) (c_law_part_11.mono (by decide)) (pure_part)
  have c_law_call := c_law_call_12
  have c_law_let := c_law_let_12
  have c_law_part := c_law_part_12
  have c_law_loop : Cal P w K mg base 28 "_law_loop" (spLoop) := mk_law_loop (j := 27) T (c_law_part.mono (by decide)) (c_law_draw.mono (by decide)) (pure_loop)
  have c_law_body : Cal P w K mg base 29 "_law_body" (spBody) := mk_law_body (j := 28) T (c_law_draw.mono (by decide)) (c_law_loop.mono (by decide)) (c_law_part.mono (by decide)) (pure_body)
  have c_law_program : Cal P w K mg base 30 "_law_program" (spProgram) := mk_law_program (j := 29) T (c_law_names.mono (by decide)) (c_law_draw.mono (by decide)) (c_law_body.mono (by decide)) (pure_program)
  have c_law_inner : Cal P w K mg base 1 "_law_inner" (spKids) := mk_law_inner (j := 0) T  (pure_innerN)
  have c_law_many_0 : Cal P w K mg base 1 "_law_many" (spLMany 0) := nv_law_many T (fun vs H Q E ⟨_, p, _, _, _, _, h, _⟩ => by have := p.mxd_kids; omega)
  have c_law_many_1 : Cal P w K mg base 2 "_law_many" (spLMany 1) := mk_law_many (j := 1) T (c_law_inner.mono (by decide)) (c_law_many_0.mono (by decide)) (pure_lmany)
  have c_law_many_2 : Cal P w K mg base 3 "_law_many" (spLMany 2) := mk_law_many (j := 2) T (c_law_inner.mono (by decide)) (c_law_many_1.mono (by decide)) (pure_lmany)
  have c_law_many_3 : Cal P w K mg base 4 "_law_many" (spLMany 3) := mk_law_many (j := 3) T (c_law_inner.mono (by decide)) (c_law_many_2.mono (by decide)) (pure_lmany)
  have c_law_many_4 : Cal P w K mg base 5 "_law_many" (spLMany 4) := mk_law_many (j := 4) T (c_law_inner.mono (by decide)) (c_law_many_3.mono (by decide)) (pure_lmany)
  have c_law_many_5 : Cal P w K mg base 6 "_law_many" (spLMany 5) := mk_law_many (j := 5) T (c_law_inner.mono (by decide)) (c_law_many_4.mono (by decide)) (pure_lmany)
  have c_law_many_6 : Cal P w K mg base 7 "_law_many" (spLMany 6) := mk_law_many (j := 6) T (c_law_inner.mono (by decide)) (c_law_many_5.mono (by decide)) (pure_lmany)
  have c_law_many_7 : Cal P w K mg base 8 "_law_many" (spLMany 7) := mk_law_many (j := 7) T (c_law_inner.mono (by decide)) (c_law_many_6.mono (by decide)) (pure_lmany)
  have c_law_many_8 : Cal P w K mg base 9 "_law_many" (spLMany 8) := mk_law_many (j := 8) T (c_law_inner.mono (by decide)) (c_law_many_7.mono (by decide)) (pure_lmany)
  have c_law_many_9 : Cal P w K mg base 10 "_law_many" (spLMany 9) := mk_law_many (j := 9) T (c_law_inner.mono (by decide)) (c_law_many_8.mono (by decide)) (pure_lmany)
  have c_law_many_10 : Cal P w K mg base 11 "_law_many" (spLMany 10) := mk_law_many (j := 10) T (c_law_inner.mono (by decide)) (c_law_many_9.mono (by decide)) (pure_lmany)
  have c_law_many_11 : Cal P w K mg base 12 "_law_many" (spLMany 11) := mk_law_many (j := 11) T (c_law_inner.mono (by decide)) (c_law_many_10.mono (by decide)) (pure_lmany)
  have c_law_many_12 : Cal P w K mg base 13 "_law_many" (spLMany 12) := mk_law_many (j := 12) T (c_law_inner.mono (by decide)) (c_law_many_11.mono (by decide)) (pure_lmany)
  have c_law_many := c_law_many_12
  have c_law_ground_0 : Cal P w K mg base 1 "_law_ground" (spGrounds 0) := nv_law_ground T (fun vs H Q E ⟨_, p, _, _, _, _, _, _, _, _, _, _, _, _, _, h, _⟩ => by have := p.mxd_kids; omega)
  have c_law_ground_1 : Cal P w K mg base 14 "_law_ground" (spGrounds 1) := mk_law_ground (j := 13) T (c_law_inner.mono (by decide)) (c_law_many.mono (by decide)) (c_law_ground_0.mono (by decide)) (pure_lground)
  have c_law_ground_2 : Cal P w K mg base 15 "_law_ground" (spGrounds 2) := mk_law_ground (j := 14) T (c_law_inner.mono (by decide)) (c_law_many.mono (by decide)) (c_law_ground_1.mono (by decide)) (pure_lground)
  have c_law_ground_3 : Cal P w K mg base 16 "_law_ground" (spGrounds 3) := mk_law_ground (j := 15) T (c_law_inner.mono (by decide)) (c_law_many.mono (by decide)) (c_law_ground_2.mono (by decide)) (pure_lground)
  have c_law_ground_4 : Cal P w K mg base 17 "_law_ground" (spGrounds 4) := mk_law_ground (j := 16) T (c_law_inner.mono (by decide)) (c_law_many.mono (by decide)) (c_law_ground_3.mono (by decide)) (pure_lground)
  have c_law_ground_5 : Cal P w K mg base 18 "_law_ground" (spGrounds 5) := mk_law_ground (j := 17) T (c_law_inner.mono (by decide)) (c_law_many.mono (by decide)) (c_law_ground_4.mono (by decide)) (pure_lground)
  have c_law_ground_6 : Cal P w K mg base 19 "_law_ground" (spGrounds 6) := mk_law_ground (j := 18) T (c_law_inner.mono (by decide)) (c_law_many.mono (by decide)) (c_law_ground_5.mono (by decide)) (pure_lground)
  have c_law_ground_7 : Cal P w K mg base 20 "_law_ground" (spGrounds 7) := mk_law_ground (j := 19) T (c_law_inner.mono (by decide)) (c_law_many.mono (by decide)) (c_law_ground_6.mono (by decide)) (pure_lground)
  have c_law_ground_8 : Cal P w K mg base 21 "_law_ground" (spGrounds 8) := mk_law_ground (j := 20) T (c_law_inner.mono (by decide)) (c_law_many.mono (by decide)) (c_law_ground_7.mono (by decide)) (pure_lground)
  have c_law_ground_9 : Cal P w K mg base 22 "_law_ground" (spGrounds 9) := mk_law_ground (j := 21) T (c_law_inner.mono (by decide)) (c_law_many.mono (by decide)) (c_law_ground_8.mono (by decide)) (pure_lground)
  have c_law_ground_10 : Cal P w K mg base 23 "_law_ground" (spGrounds 10) := mk_law_ground (j := 22) T (c_law_inner.mono (by decide)) (c_law_many.mono (by decide)) (c_law_ground_9.mono (by decide)) (pure_lground)
  have c_law_ground_11 : Cal P w K mg base 24 "_law_ground" (spGrounds 11) := mk_law_ground (j := 23) T (c_law_inner.mono (by decide)) (c_law_many.mono (by decide)) (c_law_ground_10.mono (by decide)) (pure_lground)
  have c_law_ground_12 : Cal P w K mg base 25 "_law_ground" (spGrounds 12) := mk_law_ground (j := 24) T (c_law_inner.mono (by decide)) (c_law_many.mono (by decide)) (c_law_ground_11.mono (by decide)) (pure_lground)
  have c_law_ground := c_law_ground_12
  have c_law_grounds : Cal P w K mg base 26 "_law_grounds" (spLGrounds) := mk_law_grounds (j := 25) T (c_law_ground.mono (by decide)) (pure_lgrounds)
  have c_within : Cal P w K mg base 1 "within" (spKids) := mk_within (j := 0) T  (pure_within T.k_PARTS)
  have c_in_order : Cal P w K mg base 2 "in_order" (spOrder) := mk_in_order (j := 1) T (c_within.mono (by decide)) (pure_order)
  have c_many_in : Cal P w K mg base 3 "many_in" (spMany) := mk_many_in (j := 2) T (c_in_order.mono (by decide)) (pure_many)
  have c_inner_places : Cal P w K mg base 4 "inner_places" (spInner) := mk_inner_places (j := 3) T (c_within.mono (by decide)) (c_many_in.mono (by decide)) (pure_innerplaces)
  have c_with_rows : Cal P w K mg base 1 "with_rows" (spWithRows) := mk_with_rows (j := 0) T  (pure_withrows)
  have c_grounds_0 : Cal P w K mg base 1 "grounds" (spGrounds 0) := nv_grounds T (fun vs H Q E ⟨_, p, _, _, _, _, _, _, _, _, _, _, _, _, _, h, _⟩ => by have := p.mxd_kids; omega)
  have c_grounds_1 : Cal P w K mg base 5 "grounds" (spGrounds 1) := mk_grounds (j := 4) T (c_inner_places.mono (by decide)) (c_with_rows.mono (by decide)) (c_within.mono (by decide)) (c_grounds_0.mono (by decide)) (pure_grounds)
  have c_grounds_2 : Cal P w K mg base 6 "grounds" (spGrounds 2) := mk_grounds (j := 5) T (c_inner_places.mono (by decide)) (c_with_rows.mono (by decide)) (c_within.mono (by decide)) (c_grounds_1.mono (by decide)) (pure_grounds)
  have c_grounds_3 : Cal P w K mg base 7 "grounds" (spGrounds 3) := mk_grounds (j := 6) T (c_inner_places.mono (by decide)) (c_with_rows.mono (by decide)) (c_within.mono (by decide)) (c_grounds_2.mono (by decide)) (pure_grounds)
  have c_grounds_4 : Cal P w K mg base 8 "grounds" (spGrounds 4) := mk_grounds (j := 7) T (c_inner_places.mono (by decide)) (c_with_rows.mono (by decide)) (c_within.mono (by decide)) (c_grounds_3.mono (by decide)) (pure_grounds)
  have c_grounds_5 : Cal P w K mg base 9 "grounds" (spGrounds 5) := mk_grounds (j := 8) T (c_inner_places.mono (by decide)) (c_with_rows.mono (by decide)) (c_within.mono (by decide)) (c_grounds_4.mono (by decide)) (pure_grounds)
  have c_grounds_6 : Cal P w K mg base 10 "grounds" (spGrounds 6) := mk_grounds (j := 9) T (c_inner_places.mono (by decide)) (c_with_rows.mono (by decide)) (c_within.mono (by decide)) (c_grounds_5.mono (by decide)) (pure_grounds)
  have c_grounds_7 : Cal P w K mg base 11 "grounds" (spGrounds 7) := mk_grounds (j := 10) T (c_inner_places.mono (by decide)) (c_with_rows.mono (by decide)) (c_within.mono (by decide)) (c_grounds_6.mono (by decide)) (pure_grounds)
  have c_grounds_8 : Cal P w K mg base 12 "grounds" (spGrounds 8) := mk_grounds (j := 11) T (c_inner_places.mono (by decide)) (c_with_rows.mono (by decide)) (c_within.mono (by decide)) (c_grounds_7.mono (by decide)) (pure_grounds)
  have c_grounds_9 : Cal P w K mg base 13 "grounds" (spGrounds 9) := mk_grounds (j := 12) T (c_inner_places.mono (by decide)) (c_with_rows.mono (by decide)) (c_within.mono (by decide)) (c_grounds_8.mono (by decide)) (pure_grounds)
  have c_grounds_10 : Cal P w K mg base 14 "grounds" (spGrounds 10) := mk_grounds (j := 13) T (c_inner_places.mono (by decide)) (c_with_rows.mono (by decide)) (c_within.mono (by decide)) (c_grounds_9.mono (by decide)) (pure_grounds)
  have c_grounds_11 : Cal P w K mg base 15 "grounds" (spGrounds 11) := mk_grounds (j := 14) T (c_inner_places.mono (by decide)) (c_with_rows.mono (by decide)) (c_within.mono (by decide)) (c_grounds_10.mono (by decide)) (pure_grounds)
  have c_grounds_12 : Cal P w K mg base 16 "grounds" (spGrounds 12) := mk_grounds (j := 15) T (c_inner_places.mono (by decide)) (c_with_rows.mono (by decide)) (c_within.mono (by decide)) (c_grounds_11.mono (by decide)) (pure_grounds)
  have c_grounds := c_grounds_12
  have c_ground_of : Cal P w K mg base 17 "ground_of" (spGroundOf) := mk_ground_of (j := 16) T (c_grounds.mono (by decide)) (pure_groundof)
  have c_number_of : Cal P w K mg base 1 "number_of" (spNum) := mk_number_of (j := 0) T  (pure_num)
  have c_things_of : Cal P w K mg base 2 "things_of" (spThings) := mk_things_of (j := 1) T (c_number_of.mono (by decide)) (pure_things)
  have c_wants : Cal P w K mg base 3 "wants" (spWants) := mk_wants (j := 2) T (c_things_of.mono (by decide)) (pure_wants)
  have c_bodies : Cal P w K mg base 1 "bodies" (spBodies) := mk_bodies (j := 0) T  (pure_bodies)
  have c_body_place : Cal P w K mg base 4 "body_place" (spPlace) := mk_body_place (j := 3) T (c_bodies.mono (by decide)) (c_number_of.mono (by decide)) (c_many_in.mono (by decide)) (pure_place)
  have c_Nodes___init__ : KCal P w K mg base 19 "Nodes" (He.ga K "Nodes") (spNodesInit K w) := mk_Nodes___init__ (j := 17) T (c_ground_of.mono (by decide)) (c_wants.mono (by decide)) (c_body_place.mono (by decide)) (pure_nodesinit ⟨T.c_Nodes, T.a_Nodes_program, T.a_Nodes_ground, T.a_Nodes_kept, T.a_Nodes_numbers, T.a_Nodes_closed, T.a_Nodes_doors⟩)
  have c_Nodes_node : MCal P w K mg base 1 (He.ga K "Nodes") "node" (spNode K w) := mk_Nodes_node (j := 0) T  (pure_node ⟨T.c_Nodes, T.a_Nodes_program, T.a_Nodes_ground, T.a_Nodes_kept, T.a_Nodes_numbers, T.a_Nodes_closed, T.a_Nodes_doors⟩)
  have c_law_node : Cal P w K mg base 1 "_law_node" (spLNode w) := mk_law_node (j := 0) T  (pure_lnode)
  have c_law_seen : Cal P w K mg base 2 "_law_seen" (spLSeen w) := mk_law_seen (j := 1) T (c_law_node.mono (by decide)) (pure_lseen)
  have c_law_passed : Cal P w K mg base 1 "_law_passed" (spLPassed) := mk_law_passed (j := 0) T  (pure_lpassed)
  have c_law_given : Cal P w K mg base 2 "_law_given" (spLGiven w) := mk_law_given (j := 1) T (c_law_passed.mono (by decide)) (c_law_node.mono (by decide)) (pure_lgiven)
  have c_law_two : Cal P w K mg base 1 "_law_two" (spLTwo) := mk_law_two (j := 0) T  (pure_ltwo)
  have c_law_behind : Cal P w K mg base 3 "_law_behind" (spLBehind w) := mk_law_behind (j := 2) T (c_law_seen.mono (by decide)) (c_law_passed.mono (by decide)) (c_law_node.mono (by decide)) (c_law_given.mono (by decide)) (c_law_two.mono (by decide)) (pure_lbehind)
  have c_Nodes_told : MCal P w K mg base 1 (He.ga K "Nodes") "told" (spTold K w) := mk_Nodes_told (j := 0) T  (pure_told ⟨T.c_Nodes, T.a_Nodes_program, T.a_Nodes_ground, T.a_Nodes_kept, T.a_Nodes_numbers, T.a_Nodes_closed, T.a_Nodes_doors⟩)
  have c_law_same : Cal P w K mg base 2 "_law_same" (spLSame K w) := mk_law_same (j := 1) T (c_Nodes_told.mono (by decide)) (pure_lsame)
  have c_Nodes_part : MCal P w K mg base 1 (He.ga K "Nodes") "part" (spNPart K w) := mk_Nodes_part (j := 0) T  (pure_npart ⟨T.c_Nodes, T.a_Nodes_program, T.a_Nodes_ground, T.a_Nodes_kept, T.a_Nodes_numbers, T.a_Nodes_closed, T.a_Nodes_doors⟩)
  have c_Nodes_inner : MCal P w K mg base 1 (He.ga K "Nodes") "inner" (spNInner K w) := mk_Nodes_inner (j := 0) T  (pure_ninner ⟨T.c_Nodes, T.a_Nodes_program, T.a_Nodes_ground, T.a_Nodes_kept, T.a_Nodes_numbers, T.a_Nodes_closed, T.a_Nodes_doors⟩)
  have c_Nodes_seen : MCal P w K mg base 2 (He.ga K "Nodes") "seen" (spSeen K w) := mk_Nodes_seen (j := 1) T (c_Nodes_node.mono (by decide)) (pure_seen ⟨T.c_Nodes, T.a_Nodes_program, T.a_Nodes_ground, T.a_Nodes_kept, T.a_Nodes_numbers, T.a_Nodes_closed, T.a_Nodes_doors⟩)
  have c_passed : Cal P w K mg base 1 "passed" (spPassed) := mk_passed (j := 0) T  (pure_passed)
  have c_Nodes_door : MCal P w K mg base 1 (He.ga K "Nodes") "door" (spDoor K w) := mk_Nodes_door (j := 0) T  (pure_door ⟨T.c_Nodes, T.a_Nodes_program, T.a_Nodes_ground, T.a_Nodes_kept, T.a_Nodes_numbers, T.a_Nodes_closed, T.a_Nodes_doors⟩)
  have c_called : Cal P w K mg base 2 "called" (spCalledN K w) := mk_called (j := 1) T (c_Nodes_door.mono (by decide)) (c_Nodes_node.mono (by decide)) (pure_calledN)
  have c_of_fun : Cal P w K mg base 3 "of_fun" (spOfFun K w) := mk_of_fun (j := 2) T (c_Nodes_door.mono (by decide)) (c_called.mono (by decide)) (pure_offun)
  have c_of_give : Cal P w K mg base 3 "of_give" (spOfGive K w) := mk_of_give (j := 2) T (c_Nodes_seen.mono (by decide)) (c_Nodes_door.mono (by decide)) (c_called.mono (by decide)) (pure_ofgive)
  have c_reckoned : Cal P w K mg base 1 "reckoned" (spReck) := mk_reckoned (j := 0) T  (pure_reck)
  have c_is_small : Cal P w K mg base 1 "is_small" (spSmall) := mk_is_small (j := 0) T  (pure_small)
  have c_of_numbers : Cal P w K mg base 3 "of_numbers" (spOfNums K w) := mk_of_numbers (j := 2) T (c_Nodes_seen.mono (by decide)) (c_reckoned.mono (by decide)) (c_is_small.mono (by decide)) (pure_ofnums)
  have c_of_when : Cal P w K mg base 3 "of_when" (spOfWhen K w) := mk_of_when (j := 2) T (c_Nodes_seen.mono (by decide)) (c_passed.mono (by decide)) (pure_ofwhen)
  have c_of_side : Cal P w K mg base 3 "of_side" (spOfSide K w) := mk_of_side (j := 2) T (c_Nodes_seen.mono (by decide)) (c_passed.mono (by decide)) (pure_ofside)
  have c_behind : Cal P w K mg base 4 "behind" (spBehindN K w) := mk_behind (j := 3) T (c_Nodes_told.mono (by decide)) (c_Nodes_part.mono (by decide)) (c_Nodes_inner.mono (by decide)) (c_Nodes_seen.mono (by decide)) (c_passed.mono (by decide)) (c_of_fun.mono (by decide)) (c_of_give.mono (by decide)) (c_of_numbers.mono (by decide)) (c_of_when.mono (by decide)) (c_of_side.mono (by decide)) (pure_behindN T.t_OPERATIONS)
  have c_law_worth : Cal P w K mg base 3 "_law_worth" (spLWorth) := mk_law_worth (j := 2) T (c_law_draw.mono (by decide)) (c_law_number.mono (by decide)) (pure_lworth)
  have c_law_wish : Cal P w K mg base 4 "_law_wish" (spLWish) := mk_law_wish (j := 3) T (c_law_worth.mono (by decide)) (pure_lwish)
  exact mkl_law (j := 30) F T (c_law_pen.mono (by decide)) (c_law_program.mono (by decide)) (c_law_grounds.mono (by decide)) (c_law_many.mono (by decide)) (c_Nodes___init__.mono (by decide)) (c_law_draw.mono (by decide)) (c_Nodes_node.mono (by decide)) (c_law_node.mono (by decide)) (c_law_behind.mono (by decide)) (c_law_same.mono (by decide)) (c_behind.mono (by decide)) (c_law_wish.mono (by decide)) (pure_law17)
end
end Lz
open PySem PySem.W PySem.Calls PyProof.Rows
theorem PySem.Challenge.cw_lazywebs_k17_needs_one_by_one_holds : PySem.Challenge.rw_lazywebs_k17_needs_one_by_one.Holds := by
  w_on; o_law
  refine HandSHeadRun.head_any (r := OpenLaw.row PySem.Challenge.rw_lazywebs_k17_needs_one_by_one) (q := view (OpenLaw.row PySem.Challenge.rw_lazywebs_k17_needs_one_by_one).prog [56]) (H := Lz.hk) (ob := Lz.ob) (M := 6000) (loose := Lz.hloose) (d := HandSHeadRun.topDef (OpenLaw.row PySem.Challenge.rw_lazywebs_k17_needs_one_by_one).prog 56) (kwd := []) Lz.ob_eq
    (by kernel_rfl) (fun s => by kernel_rfl) Lz.hrun (by kernel_rfl) (by kernel_rfl) (by kernel_rfl) (by rfl) (by first | assumption | decide +kernel) (by decide +kernel) ⟨rfl, rfl, rfl, rfl, rfl, by decide +kernel⟩ ?hw ?hc
  case hw => w_witness2
  case hc =>
    refine L2.walk_ofE (l := PySem.Challenge.rw_lazywebs_k17_needs_one_by_one) (n := 63) (k := 31) (x := "_law_script") (CX := L2.CX0) rfl (by decide) (by kernel_rfl) ⟨rfl, by decide, by decide⟩ ?F (fun _ _ _ _ z => z)
    intro w mg fa h Y G hmg0
    obtain ⟨K, KX, c⟩ := Y
    have T := Lz.tx_mk KX G c
    have hmg : mg ("law" : PySem.Str) = some (.ref fa) := by
      have e : (HandSHeadRun.topDef (OpenLaw.row PySem.Challenge.rw_lazywebs_k17_needs_one_by_one).prog 56).name = ("law" : PySem.Str) := by kernel_rfl
      rw [← e]
      exact hmg0
    have e := hmg.symm.trans T.f_law
    cases e
    obtain ⟨fd, F⟩ := T.d_law
    have b := L2.FunD.bindsA (ps := ["_law_script"]) F fun _ _ _ _ _ _ us hl => match us, hl with | [_], _ => rfl
    exact ⟨K, fd, Lz.spLaw K, KX, fun s u => b s [u] rfl, fun H a ns hl _ hS => ⟨a, ns, rfl, hS, hl, fun _ => rfl⟩, fun base _ _ => Lz.law_ok T F⟩
#print axioms PySem.Challenge.cw_lazywebs_k17_needs_one_by_one_holds
