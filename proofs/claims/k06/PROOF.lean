import PyProof.Rows.All
import Wide.All
import OpenK.AllK
import Wide.FinOn
import KE.KStateDown
import Lean
import HandS.Base
import HandS.Call
import HandS.List
import HandS.Comp
import HandS.Ends
import HandS.Dict
import HandS.Iter
import HandS.Text
import HandS.More
import HandS.Exc
import HandS.Words
import HandS.WordsList
import HandS.Defaults
import HandS.Wide
import HandS.TupAny
import HandS.Flow
import HandS.Style
import HandS.Conv
import HandS.IsInst
import HandS.Head0
import HandS.Head1
import HandS.Head2
import HandS.HeadEnd
import HandS.HeadHook1
import HandS.HeadHook2
import HandS.HeadHook3
import HandS.DeepEq
import PyProof.NeData
import HandS.Codes
import HandS.ExcOwn
import HandS.ExcInit
import HandS.WordsExc
import KE.KExcIs
import HandS.HeadHook4
import PySem.Challenge.RW_lazywebs_k06_what_is_no_program
set_option Elab.async false
set_option linter.all false
set_option maxRecDepth 100000
set_option maxHeartbeats 4000000
namespace Lz
open PySem PySem.Spec PyProof.Rows L2
/-! ### heaps by what is known of them -/
/-- a new object o at p -/
def New (H : Hp) (o : HO) (R : Addr → Hp → Prop) : Prop := ∀ p H', H p = none → H' p = some o → Same H H' → R p H'
/-- but for a all is as it was -/
def Chg (a : Addr) (H H' : Hp) : Prop := ∀ b o, b ≠ a → H b = some o → H' b = some o
/-- the object at a is now o -/
def Put (H : Hp) (a : Addr) (o : HO) (R : Hp → Prop) : Prop := ∀ H', H' a = some o → Chg a H H' → R H'
theorem same_upd {H : Hp} {p : Addr} {o : HO} (h : H p = none) : Same H (upd H p o) := fun b u e => by rw [upd_ne (ne_of_none e h)]; exact e
theorem New.at {H : Hp} {o : HO} {R : Addr → Hp → Prop} (h : New H o R) : ∀ p, H p = none → R p (upd H p o) := fun p hp => h p _ hp upd_same (same_upd hp)
theorem Put.at {H : Hp} {a : Addr} {o : HO} {R : Hp → Prop} (h : Put H a o R) : R (upd H a o) := h _ upd_same fun b u n e => by rw [upd_ne n]; exact e
section
variable {X : Cx}
theorem opr_imp {f : Value → Value → Sem Value} {r r' : R2} (h : OpR X f r) (i : ∀ x y H Q, r' x y H Q → r x y H Q) : OpR X f r' := fun pins s σ H x y v u Q I rx ry q => h pins s σ H x y v u Q I rx ry (i _ _ _ _ q)
theorem callr_imp {f : Value} {r r' : List V → Hp → VK → Prop} (h : CallR X f r) (i : ∀ xs H Q, r' xs H Q → r xs H Q) : CallR X f r' := fun pins s σ H xs us Q I rs q => h pins s σ H xs us Q I rs (i _ _ _ q)
theorem mtr_imp {id : String} {r r' : V → List V → Hp → VK → Prop} (h : MtR X id r) (i : ∀ x xs H Q, r' x xs H Q → r x xs H Q) : MtR X id r' := fun pins s σ H x xs v us Q I rx rs q => h pins s σ H x xs v us Q I rx rs (i _ _ _ _ q)
theorem slr_imp {r r' : V → Option Int → Option Int → Hp → VK → Prop} (h : SlR X r) (i : ∀ x lo hi H Q, r' x lo hi H Q → r x lo hi H Q) : SlR X r' := fun pins s σ H x v vl vu lo hi sl Q I rx hs pl pu q => h pins s σ H x v vl vu lo hi sl Q I rx hs pl pu (i _ _ _ _ _ q)
/-- a reading's upward closure -/
def clA (t : TA) : TA := fun σ H Q => ∃ Q0, t σ H Q0 ∧ ∀ xs H1, Q0 xs H1 → Q xs H1
def clE (t : TE) : TE := fun σ H Q => ∃ Q0, t σ H Q0 ∧ ∀ x H1, Q0 x H1 → Q x H1
theorem pa_cl {es : List Expr} {t : TA} (h : PA X es t) : PA X es (clA t) := ⟨fun pos pins s σ H Q I ⟨Q0, q, i⟩ => thn (h.run pos pins s σ H Q0 I q) fun us s' ⟨vs, H', I', r, q'⟩ => ⟨vs, H', I', r, i _ _ q'⟩⟩
theorem pe_cl {e : Expr} {t : TE} (h : PE X e t) : PE X e (clE t) := ⟨fun pins s σ H Q I ⟨Q0, q, i⟩ => thn (h.run pins s σ H Q0 I q) fun us s' ⟨vs, H', I', r, q'⟩ => ⟨vs, H', I', r, i _ _ q'⟩⟩
/-- displays -/
def tTupN (t : TA) : TE := fun σ H Q => t σ H fun xs H1 => xs.length ≤ sizeLine ∧ New H1 (.tup xs) fun p H2 => Q (.ref p) H2
def tLstN (t : TA) : TE := fun σ H Q => t σ H fun xs H1 => xs.length ≤ sizeLine ∧ New H1 (.lst xs) fun p H2 => Q (.ref p) H2
theorem pe_tupN {es : List Expr} {t : TA} {x1 pos} (h : PA X es t) : PE X (.Tuple es x1 pos) (tTupN t) :=
  ⟨fun pins s σ H Q I q => (pe_tup (pa_cl h)).run pins s σ H Q I ⟨_, q, fun xs H1 ⟨hl, n⟩ => ⟨hl, n.at⟩⟩⟩
theorem pe_lstN {es : List Expr} {t : TA} {pos} (h : PA X es t) : PE X (.List es pos) (tLstN t) :=
  ⟨fun pins s σ H Q I q => (pe_lst (pa_cl h)).run pins s σ H Q I ⟨_, q, fun xs H1 ⟨hl, n⟩ => ⟨hl, n.at⟩⟩⟩
def tDNewKN : TE := fun _ H Q => New H (.dK []) fun p H2 => Q (.ref p) H2
/-- a display of a dict: its pairs while it is empty, then filled -/
def tDispN (trs : List (TE × TE)) : TE := fun σ H Q => New H (.dK []) fun p H1 => tPairs trs σ H1 fun ps H2 => H2 p = some (.dK []) ∧ ∃ kvs : List (Key × V), ps = kvs.map (fun kv => (kV kv.1, kv.2)) ∧ kvs.length ≤ 15 ∧ Put H2 p (.dK (mergeK [] kvs)) fun H' => Q (.ref p) H'
def clP (trs : List (TE × TE)) : List (TE × TE) := trs.map fun q => (clE q.1, clE q.2)
theorem tPairs_cl : ∀ (trs : List (TE × TE)) (σ : L2.St) (H : Hp) (Q Q' : List (V × V) → Hp → Prop), tPairs trs σ H Q → (∀ ps H', Q ps H' → Q' ps H') → tPairs (clP trs) σ H Q'
  | [], σ, H, Q, Q', h, i => i _ _ h
  | (tk, tv) :: r, σ, H, Q, Q', h, i => ⟨_, h, fun x H1 h1 => ⟨_, h1, fun y H2 h2 => tPairs_cl r σ H2 _ _ h2 fun ps H3 h3 => i _ _ h3⟩⟩
theorem pe_dispN {pos : Pos} {keys : List (Option Expr)} {values : List Expr} {trs : List (TE × TE)} (h : PPs X pos keys values (clP trs)) (hall : keys.all (·.isSome) = true) (hl : keys.length = values.length) (h0 : keys ≠ [])
    (h15 : keys.length ≤ 15) : PE X (.Dict keys values pos) (tDispN trs) :=
  ⟨fun pins s σ H Q I q => (pe_disp h hall hl h0 h15).run pins s σ H Q I fun p hp => tPairs_cl trs σ _ _ _ (q p _ hp upd_same (same_upd hp)) fun ps H2 ⟨e, kvs, e1, e2, n⟩ => ⟨e, kvs, e1, e2, n.at⟩⟩
theorem pe_dnewKN {pos} : PE X (.Dict [] [] pos) tDNewKN := ⟨fun pins s σ H Q I q => pe_dnewK.run pins s σ H Q I (New.at q)⟩
end
/-! ### operators, whatever the operands are -/
section
variable {X : Cx}
def rAddG (K : PySem.W.Frag) : R2 := fun x y H Q => (rI0 fun i j => .int (i + j)) x y H Q ∨ (∃ i j, x = .str i ∧ y = .str j ∧ i.length + j.length ≤ sizeLine ∧ Q (.str (i ++ j)) H) ∨
  (∃ l b xs zs, x = .ref l ∧ y = .ref b ∧ H l = some (.lst xs) ∧ H b = some (.lst zs) ∧ xs.length + zs.length ≤ sizeLine ∧ New H (.lst (xs ++ zs)) fun p H' => Q (.ref p) H') ∨
  (∃ a b xs ys, x = .ref a ∧ y = .ref b ∧ SqT K H a xs ∧ SqT K H b ys ∧ xs.length + ys.length ≤ sizeLine ∧
    (xs = [] → Q (.ref b) H) ∧ (xs ≠ [] → ys = [] → Q (.ref a) H) ∧ (xs ≠ [] → ys ≠ [] → New H (.tup (xs ++ ys)) fun p H' => Q (.ref p) H'))
theorem op_addG : OpR X (binaryOp .Add) (rAddG X.K) := opr_imp (op_add.or (op_add_str.or (op_cat.or op_catA))) fun x y H Q h => by
  rcases h with h | h | ⟨l, b, xs, zs, e1, e2, h1, h2, hl, n⟩ | ⟨a, b, xs, ys, e1, e2, h1, h2, hl, n0, n1, n⟩
  · exact .inl h
  · exact .inr (.inl h)
  · exact .inr (.inr (.inl ⟨l, b, xs, zs, e1, e2, h1, h2, hl, n.at⟩))
  · exact .inr (.inr (.inr ⟨a, b, xs, ys, e1, e2, h1, h2, hl, n0, n1, fun x1 y1 => (n x1 y1).at⟩))
abbrev rSubG : R2 := rI0 fun i j => .int (i - j)
def rMulG : R2 := fun x y H Q => (rI CMul fun i j => .int (i * j)) x y H Q ∨ (rI CMulW fun i j => .int (i * j)) x y H Q
theorem op_mulG : OpR X (binaryOp .Mult) rMulG := op_mul.or op_mulW
abbrev rDivG : R2 := rI CDivW fun i j => .int (i / j)
abbrev rModG : R2 := rI (fun _ j => 0 < j) fun i j => .int (i % j)
abbrev rPowG : R2 := rI CPow fun i j => .int (i ^ j.toNat)
/-- values that are like themselves at once: those of hits_all, and one and the same object -/
def flatR : V → Bool
  | .ref _ => true
  | v => flatB v
theorem eqAt_sameR {A : Around} {s : Shared} {v : V} {u u' : Value} (r : RelV v u) (r' : RelV v u') (f : flatR v = true) : SeqAt.EqAt A s u u' true := by
  cases v with
  | ref a =>
    obtain rfl : u = Value.ref a := r
    obtain rfl : u' = Value.ref a := r'
    exact SeqAt.EqAt.same _
  | _ => exact eqAt_same r r' f
theorem hits_allR {κ : Type} [DecidableEq κ] {A : Around} {s : Shared} {kvs : List (κ × V)} {vb : List (κ × Value)} (rb : KV kvs vb) {ks : List (κ × V)} {va : List (κ × Value)} (ra : KV ks va) :
    (∀ p ∈ ks, valV kvs p.1 = some p.2 ∧ flatR p.2 = true) → PySem.W.KeqHits A s vb va true := by
  unfold KV at ra
  induction ra with
  | nil => intro _; exact .nil
  | @cons p q ps qs h t ih =>
    intro hp
    obtain ⟨h1, h2⟩ := h
    obtain ⟨e, f⟩ := hp p List.mem_cons_self
    have rr : RelO (some p.2) (valueAt vb p.1) := by rw [← e]; exact rb.val p.1
    obtain ⟨y, hy, ry⟩ := rr.some_of
    obtain ⟨k, v⟩ := q
    have h1' : p.1 = k := h1
    rw [h1'] at hy
    show PySem.W.KeqHits A s vb ((k, v) :: qs) (true && true)
    exact .hit hy (eqAt_sameR h2 ry f) (ih fun p' hm => hp p' (List.mem_cons_of_mem _ hm))
/-- two dicts that hold the same, whatever the order of their keys is; values flat or the same objects -/
def rSameD (b : Bool) : R2 := fun x y H Q => ∃ p q ks ls, x = .ref p ∧ y = .ref q ∧ H p = some (.dK ks) ∧ H q = some (.dK ls) ∧ ks.length = ls.length ∧ (∀ p ∈ ks, valV ls p.1 = some p.2 ∧ flatR p.2 = true) ∧ Q (.bl b) H
theorem op_eq_dictR (hu : X.A.units < cLine) : OpR X (compareOp .Eq) (rSameD true) := by
  intro pins s σ H x y v u Q I rx ry h
  obtain ⟨a, b, ks, ls, rfl, rfl, ea, eb, hlen, hp, q⟩ := h
  obtain rfl : v = Value.ref a := rx
  obtain rfl : u = Value.ref b := ry
  obtain ⟨_, ya, va, ra, da⟩ := (show ObjOk X.prog X.w H s.heap a (.dK ks) from I.hok a _ ea)
  obtain ⟨_, yb, vb, rb, db⟩ := (show ObjOk X.prog X.w H s.heap b (.dK ls) from I.hok b _ eb)
  have hl : va.length = vb.length := by rw [← ra.length, ← rb.length]; exact hlen
  exact PySem.W.keq_eq (knd := mixKind X.prog X.w) (r := true) ya yb da db hu (fun _ => hits_allR rb ra hp) (fin_bl I q (by simp [hl]))
theorem op_ne_dictR (hu : X.A.units < cLine) : OpR X (compareOp .NotEq) (rSameD false) := by
  intro pins s σ H x y v u Q I rx ry h
  obtain ⟨a, b, ks, ls, rfl, rfl, ea, eb, hlen, hp, q⟩ := h
  obtain rfl : v = Value.ref a := rx
  obtain rfl : u = Value.ref b := ry
  obtain ⟨_, ya, va, ra, da⟩ := (show ObjOk X.prog X.w H s.heap a (.dK ks) from I.hok a _ ea)
  obtain ⟨_, yb, vb, rb, db⟩ := (show ObjOk X.prog X.w H s.heap b (.dK ls) from I.hok b _ eb)
  have hl : va.length = vb.length := by rw [← ra.length, ← rb.length]; exact hlen
  exact PySem.W.keq_ne (knd := mixKind X.prog X.w) (r := true) ya yb da db hu (fun _ => hits_allR rb ra hp) (fin_bl I q (by simp [hl]))
end
/-! ### alike: by structure, down to flat values or to one and the same object; however deep (the stack has room) -/
/-- two lists, two tuples of alike items -/
def LkR (K : PySem.W.Frag) (H : Hp) (E : V → V → Prop) (x y : V) : Prop :=
  (∃ a b xs ys, x = .ref a ∧ y = .ref b ∧ SqL K H a xs ∧ SqL K H b ys ∧ Paired E xs ys) ∨ ∃ a b xs ys, x = .ref a ∧ y = .ref b ∧ SqT K H a xs ∧ SqT K H b ys ∧ Paired E xs ys
def Lk (K : PySem.W.Frag) (H : Hp) : Nat → V → V → Prop
  | 0 => fun _ _ => False
  | n + 1 => fun x y => (x = y ∧ flatB x = true) ∨ (∃ a, x = .ref a ∧ y = .ref a) ∨ LkR K H (Lk K H n) x y
theorem items_like {A : Around} {s : Shared} {F : V → V → Prop} (ih : ∀ x y v u, F x y → RelV x v → RelV y u → SeqAt.EqAt A s v u true) {xs ys : List V} (hp : Paired F xs ys) :
    ∀ {us ws : List Value}, Vals xs us → Vals ys ws → ∀ j (h1 : j < us.length) (h2 : j < ws.length), SeqAt.EqAt A s us[j] ws[j] true := by
  induction hp with
  | nil =>
    intro us ws r1 r2 j h1 h2
    cases r1
    exact absurd h1 (Nat.not_lt_zero j)
  | cons h _ k =>
    intro us ws r1 r2 j h1 h2
    cases r1 with
    | cons a1 b1 =>
      cases r2 with
      | cons a2 b2 =>
        cases j with
        | zero => exact ih _ _ _ _ h a1 a2
        | succ j => exact k b1 b2 j (Nat.lt_of_succ_lt_succ h1) (Nat.lt_of_succ_lt_succ h2)
section
variable {X : Cx} {pins : List (Addr × Obj)} {σ : L2.St} {H : Hp} {s : Shared}
/-- both, asked by == or by !=: R is what is told of lists and of tuples -/
theorem like_run {R : Around → Shared → Value → Value → Bool → Prop} {t : Bool} (I : Inv X pins σ H s) {A : Around} {F : V → V → Prop} (hu : A.units < cLine)
    (hl : ∀ {l b : Addr} {items items2 : Array Value} {e : Nat → Bool}, s.heap.IsList l items → s.heap.IsList b items2 → items.size = items2.size → (∀ j (h1 : j < items.size) (h2 : j < items2.size), SeqAt.EqAt A.in1 s items[j] items2[j] (e j)) →
      (List.range items.size).all e = true → R A s (.ref l) (.ref b) t)
    (ht : ∀ {l b : Addr} {items items2 : Array Value} {e : Nat → Bool}, s.heap.IsTuple l items → s.heap.IsTuple b items2 → (∀ j (h1 : j < items.size) (h2 : j < items2.size), SeqAt.EqAt A.in1 s items[j] items2[j] (e j)) →
      ((List.range (min items.size items2.size)).all e && items.size == items2.size) = true → R A s (.ref l) (.ref b) t)
    (ih : ∀ x y v u, F x y → RelV x v → RelV y u → SeqAt.EqAt A.in1 s v u true) {x y : V} {v u : Value} (h : LkR X.K H F x y) (rx : RelV x v) (ry : RelV y u) : R A s v u t := by
  rcases h with ⟨a, b, xs, ys, rfl, rfl, ha, hb, hp⟩ | ⟨a, b, xs, ys, rfl, rfl, ha, hb, hp⟩
  · cases (show v = Value.ref a from rx)
    cases (show u = Value.ref b from ry)
    obtain ⟨us, r1, p1, _⟩ := I.list ha
    obtain ⟨ws, r2, p2, _⟩ := I.list hb
    have hsz : us.toArray.size = ws.toArray.size := by
      rw [List.size_toArray, List.size_toArray, ← r1.length, ← r2.length]
      exact Paired.length hp
    refine hl (e := fun _ => true) p1.isList p2.isList hsz (fun j h1 h2 => ?_) (List.all_eq_true.mpr fun _ _ => rfl)
    have k := items_like ih hp r1 r2 j (by simpa using h1) (by simpa using h2)
    simpa using k
  · cases (show v = Value.ref a from rx)
    cases (show u = Value.ref b from ry)
    obtain ⟨us, r1, p1, _⟩ := I.tuple ha
    obtain ⟨ws, r2, p2, _⟩ := I.tuple hb
    have hsz : us.toArray.size = ws.toArray.size := by
      rw [List.size_toArray, List.size_toArray, ← r1.length, ← r2.length]
      exact Paired.length hp
    refine ht (e := fun _ => true) p1 p2 (fun j h1 h2 => ?_) ?_
    · have k := items_like ih hp r1 r2 j (by simpa using h1) (by simpa using h2)
      simpa using k
    · rw [Bool.and_eq_true]
      exact ⟨List.all_eq_true.mpr fun _ _ => rfl, by simpa using hsz⟩
theorem lk_eqAt (I : Inv X pins σ H s) : ∀ (n : Nat) (A : Around), A.units + n < cLine → ∀ (x y : V) (v u : Value), Lk X.K H n x y → RelV x v → RelV y u → SeqAt.EqAt A s v u true
  | 0, _, _, _, _, _, _, h, _, _ => (show False from h).elim
  | n + 1, A, hu, x, y, v, u, h, rx, ry => by
    rcases h with ⟨rfl, f⟩ | ⟨a, rfl, rfl⟩ | h
    · exact eqAt_same rx ry f
    · cases (show v = Value.ref a from rx)
      cases (show u = Value.ref a from ry)
      exact SeqAt.EqAt.same _
    · have hu1 : A.units < cLine := by omega
      have step : SeqAt.RcAt A s v u true := like_run (R := SeqAt.RcAt) I hu1 (fun h1 h2 h3 h4 h5 => h5 ▸ SeqAt.RcAt.lists h1 h2 h3 hu1 h4) (fun h1 h2 h4 h5 => h5 ▸ SeqAt.RcAt.tuples h1 h2 hu1 h4)
        (lk_eqAt I n A.in1 (by show A.units + 1 + n < cLine; omega)) h rx ry
      obtain ⟨a, b, rfl, rfl⟩ : ∃ a b, x = .ref a ∧ y = .ref b := by
        rcases h with ⟨a, b, _, _, e1, e2, _⟩ | ⟨a, b, _, _, e1, e2, _⟩
        · exact ⟨a, b, e1, e2⟩
        · exact ⟨a, b, e1, e2⟩
      cases (show v = Value.ref a from rx)
      cases (show u = Value.ref b from ry)
      by_cases e : a = b
      · subst e
        exact SeqAt.EqAt.same _
      · exact SeqAt.EqAt.of_refs e step
end
section
variable {X : Cx}
/-- a == b, a != b of two lists, two tuples that are alike -/
def rLikeN (K : PySem.W.Frag) (N : Nat) (t : Bool) : R2 := fun x y H Q => ∃ n, n ≤ N ∧ LkR K H (Lk K H n) x y ∧ Q (.bl t) H
abbrev rLike (K : PySem.W.Frag) (t : Bool) : R2 := rLikeN K 150 t
theorem op_eqLike {N : Nat} (hu : X.A.units + (N + 50) < cLine) : OpR X (compareOp .Eq) (rLikeN X.K N true) := by
  intro pins s σ H x y v u Q I rx ry h
  obtain ⟨n, hn, h, q⟩ := h
  have hu1 : X.A.units < cLine := by omega
  have step : SeqAt.RcAt X.A s v u true := like_run (R := SeqAt.RcAt) I hu1 (fun h1 h2 h3 h4 h5 => h5 ▸ SeqAt.RcAt.lists h1 h2 h3 hu1 h4) (fun h1 h2 h4 h5 => h5 ▸ SeqAt.RcAt.tuples h1 h2 hu1 h4)
    (lk_eqAt I n X.A.in1 (by show X.A.units + 1 + n < cLine; omega)) h rx ry
  exact step X.prog X.w X.xe _ ⟨.bl true, H, I, rfl, q⟩
theorem op_neLike {N : Nat} (hu : X.A.units + (N + 50) < cLine) : OpR X (compareOp .NotEq) (rLikeN X.K N false) := by
  intro pins s σ H x y v u Q I rx ry h
  obtain ⟨n, hn, h, q⟩ := h
  have hu1 : X.A.units < cLine := by omega
  have step : SeqAt.RcNeAt X.A s v u false := like_run (R := SeqAt.RcNeAt) I hu1
    (fun h1 h2 h3 h4 h5 => by have := SeqAt.RcNeAt.lists h1 h2 h3 hu1 h4; rw [h5] at this; exact this) (fun h1 h2 h4 h5 => by have := SeqAt.RcNeAt.tuples h1 h2 hu1 h4; rw [h5] at this; exact this)
    (lk_eqAt I n X.A.in1 (by show X.A.units + 1 + n < cLine; omega)) h rx ry
  exact step X.prog X.w X.xe _ ⟨.bl false, H, I, rfl, q⟩
end
section
variable {X : Cx}
/-- two lists of unlike lengths -/
def rLens (K : PySem.W.Frag) (t : Bool) : R2 := fun x y H Q => ∃ a b xs ys, x = .ref a ∧ y = .ref b ∧ SqL K H a xs ∧ SqL K H b ys ∧ xs.length ≠ ys.length ∧ Q (.bl t) H
theorem op_eqLens (hu : X.A.units < cLine) : OpR X (compareOp .Eq) (rLens X.K false) := by
  intro pins s σ H x y v u Q I rx ry ⟨a, b, xs, ys, e1, e2, ha, hb, hn, q⟩
  subst e1
  subst e2
  cases (show v = Value.ref a from rx)
  cases (show u = Value.ref b from ry)
  obtain ⟨us, r1, p1, _⟩ := I.list ha
  obtain ⟨ws, r2, p2, _⟩ := I.list hb
  have e : (us.toArray.size != ws.toArray.size) = true := by rw [List.size_toArray, List.size_toArray, ← r1.length, ← r2.length]; simpa using hn
  exact (SeqAt.RcAt.lists_lengths p1.isList p2.isList e hu) X.prog X.w X.xe _ ⟨.bl false, H, I, rfl, q⟩
theorem op_neLens (hu : X.A.units < cLine) : OpR X (compareOp .NotEq) (rLens X.K true) := by
  intro pins s σ H x y v u Q I rx ry ⟨a, b, xs, ys, e1, e2, ha, hb, hn, q⟩
  subst e1
  subst e2
  cases (show v = Value.ref a from rx)
  cases (show u = Value.ref b from ry)
  obtain ⟨us, r1, p1, _⟩ := I.list ha
  obtain ⟨ws, r2, p2, _⟩ := I.list hb
  have e : (us.toArray.size != ws.toArray.size) = true := by rw [List.size_toArray, List.size_toArray, ← r1.length, ← r2.length]; simpa using hn
  exact (SeqAt.RcNeAt.lists_lengths p1.isList p2.isList e hu) X.prog X.w X.xe _ ⟨.bl true, H, I, rfl, q⟩
def rEqG (K : PySem.W.Frag) : R2 := fun x y H Q => rEq x y H Q ∨ rEqD K x y H Q ∨ rSameD true x y H Q ∨ rLike K true x y H Q ∨ rLens K false x y H Q
def rNeG (K : PySem.W.Frag) : R2 := fun x y H Q => rNe x y H Q ∨ rNeD K x y H Q ∨ rSameD false x y H Q ∨ rLike K false x y H Q ∨ rLens K true x y H Q
theorem op_eqG (hu : X.A.units + 200 < cLine) : OpR X (compareOp .Eq) (rEqG X.K) := op_eq.or ((op_eqD (by omega)).or ((op_eq_dictR (by omega)).or ((op_eqLike hu).or (op_eqLens (by omega)))))
theorem op_neG (hu : X.A.units + 200 < cLine) : OpR X (compareOp .NotEq) (rNeG X.K) := op_ne.or ((op_neD (by omega)).or ((op_ne_dictR (by omega)).or ((op_neLike hu).or (op_neLens (by omega)))))
theorem hu2_of {k : Nat} {A : Around} (hr : Room k A) : A.units + 200 < cLine := by have := hr.un; omega
/-- the same where there is more room: alike up to a thousand deep -/
def rEqB (K : PySem.W.Frag) : R2 := fun x y H Q => rEqG K x y H Q ∨ rLikeN K 1000 true x y H Q
def rNeB (K : PySem.W.Frag) : R2 := fun x y H Q => rNeG K x y H Q ∨ rLikeN K 1000 false x y H Q
theorem op_eqB (hu : X.A.units + 1050 < cLine) : OpR X (compareOp .Eq) (rEqB X.K) := (op_eqG (by omega)).or (op_eqLike (N := 1000) (by omega))
theorem op_neB (hu : X.A.units + 1050 < cLine) : OpR X (compareOp .NotEq) (rNeB X.K) := (op_neG (by omega)).or (op_neLike (N := 1000) (by omega))
theorem hu3_of {j : Nat} {A : Around} (hj : 60 ≤ j) (hr : Room j A) : A.units + 1050 < cLine := by have := hr.un; omega
abbrev rLtG : R2 := rI0 fun i j => .bl (decide (i < j))
abbrev rLeG : R2 := rI0 fun i j => .bl (decide (i ≤ j))
abbrev rGtG : R2 := rI0 fun i j => .bl (decide (j < i))
abbrev rGeG : R2 := rI0 fun i j => .bl (decide (j ≤ i))
/-- y in a tracked dict -/
def rInT (neg : Bool) : R2 := fun y x H Q => ∃ a o, x = .ref a ∧ DGet H a y o ∧ Q (.bl (if neg then !o.isSome else o.isSome)) H
theorem op_in_t (hu : X.A.units + 1 < cLine) : OpR X (compareOp .In) (rInT false) := by
  intro pins s σ H y x u v Q I ry rx h
  obtain ⟨a, o, rfl, g, q⟩ := h
  cases rx
  exact d_in hu I g ry fun s' I' => ⟨.bl o.isSome, H, I', rfl, q⟩
theorem op_notIn_t (hu : X.A.units + 1 < cLine) : OpR X (compareOp .NotIn) (rInT true) := by
  intro pins s σ H y x u v Q I ry rx h
  obtain ⟨a, o, rfl, g, q⟩ := h
  cases rx
  exact d_notIn hu I g ry fun s' I' => ⟨.bl (!o.isSome), H, I', rfl, q⟩
/-- the written dict at d holds z's value, or nothing -/
def KGet (K : PySem.W.Frag) (w : World) (d : Addr) (z : Str) (r : Option V) : Prop :=
  ∃ es n, KDict K w d es n ∧ ((r = none ∧ PySem.W.nsIn K d z = some none) ∨ ∃ u v, r = some v ∧ PySem.W.nsIn K d z = some (some u) ∧ RelV v u)
def rInK (K : PySem.W.Frag) (w : World) (neg : Bool) : R2 := fun y x H Q => ∃ z d r, y = .str z ∧ x = .ref d ∧ KGet K w d z r ∧ Q (.bl (if neg then !r.isSome else r.isSome)) H
theorem KGet.ns {K : PySem.W.Frag} {w : World} {d : Addr} {z : Str} {r : Option V} (h : KGet K w d z r) : ∃ es n r', KDict K w d es n ∧ PySem.W.nsIn K d z = some r' ∧ r'.isSome = r.isSome := by
  obtain ⟨es, n, D, ⟨rfl, e⟩ | ⟨u, v, rfl, e, _⟩⟩ := h
  · exact ⟨es, n, none, D, e, rfl⟩
  · exact ⟨es, n, some u, D, e, rfl⟩
theorem op_in_k : OpR X (compareOp .In) (rInK X.K X.w false) := by
  intro pins s σ H y x u v Q I ry rx h
  obtain ⟨z, d, r, rfl, rfl, g, q⟩ := h
  obtain ⟨es, n, r', D, e, e2⟩ := g.ns
  exact op_in_kd D pins s σ H _ _ u v Q I ry rx ⟨z, r', rfl, rfl, e, by rw [e2]; exact q⟩
theorem op_notIn_k : OpR X (compareOp .NotIn) (rInK X.K X.w true) := by
  intro pins s σ H y x u v Q I ry rx h
  obtain ⟨z, d, r, rfl, rfl, g, q⟩ := h
  obtain ⟨es, n, r', D, e, e2⟩ := g.ns
  exact op_notIn_kd D pins s σ H _ _ u v Q I ry rx ⟨z, r', rfl, rfl, e, by rw [e2]; exact q⟩
def rInS (neg : Bool) : R2 := fun x y H Q => ∃ i j, x = .str i ∧ y = .str j ∧ Q (.bl (if neg then !(!(Builtin.Str.occurrences j i 0 j.length 1).isEmpty) else !(Builtin.Str.occurrences j i 0 j.length 1).isEmpty)) H
theorem op_in_s : OpR X (compareOp .In) (rInS false) := op_in_str
theorem op_notIn_s : OpR X (compareOp .NotIn) (rInS true) := op_notIn_str
def rInG (K : PySem.W.Frag) (w : World) (neg : Bool) : R2 := fun x y H Q => rIn K neg x y H Q ∨ rInS neg x y H Q ∨ rInT neg x y H Q ∨ rInK K w neg x y H Q
theorem op_inG (hu : X.A.units + 1 < cLine) : OpR X (compareOp .In) (rInG X.K X.w false) := op_in_seq.or (op_in_s.or ((op_in_t hu).or op_in_k))
theorem op_notInG (hu : X.A.units + 1 < cLine) : OpR X (compareOp .NotIn) (rInG X.K X.w true) := op_notIn_seq.or (op_notIn_s.or ((op_notIn_t hu).or op_notIn_k))
/-! ### is -/
def rIsG (neg : Bool) : R2 := fun x y H Q => (y = .non ∧ Q (.bl (if neg then !decide (x = .non) else decide (x = .non))) H) ∨ (∃ a b : Bool, x = .bl a ∧ y = .bl b ∧ Q (.bl (if neg then !decide (a = b) else decide (a = b))) H)
theorem op_isG : OpR X (compareOp .Is) (rIsG false) := op_isN.or op_isBl
theorem op_isNotG : OpR X (compareOp .IsNot) (rIsG true) := op_notN.or op_notBl
/-! ### len of anything -/
def rLenD : List V → Hp → VK → Prop := fun xs H Q => ∃ a kvs, xs = [.ref a] ∧ Rd H a (.dK kvs) ∧ Q (.int kvs.length) H
theorem call_lenK : CallR X (.builtin "len") rLenD := by
  intro pins s σ H xs us Q I r h
  obtain ⟨a, kvs, rfl, g, q⟩ := h
  obtain ⟨u, rfl, ru⟩ := vals1 r
  cases ru
  exact d_len I g fun t s' I' => ⟨.int kvs.length, H, I', ⟨t, rfl⟩, q⟩
def rLenG (K : PySem.W.Frag) : List V → Hp → VK → Prop := fun xs H Q => (∃ x n, xs = [x] ∧ LenV K x H n ∧ Q (.int n) H) ∨ rLenD xs H Q
theorem call_lenG : CallR X (.builtin "len") (rLenG X.K) := call_len.or call_lenK
/-! ### what is walked -/
def iOr (a b : TI) : TI := fun σ H R => a σ H R ∨ b σ H R
theorem piOr {tg e : Expr} {a b : TI} (ha : PI X tg e a) (hb : PI X tg e b) : PI X tg e (iOr a b) :=
  ⟨fun pins s σ H R I h => h.elim (ha.run pins s σ H R I) (hb.run pins s σ H R I)⟩
/-- a list, a tuple, a text -/
def iSeq (K : PySem.W.Frag) (te : TE) : TI := iOr (iList K te) (iOr (iTup K te) (iStr te))
theorem pi_seq {tg e : Expr} {te : TE} (h : PE X e te) : PI X tg e (iSeq X.K te) := piOr (pi_list h) (piOr (pi_tup h) (pi_str h))
end

/-! ### subscripts, slices, stores -/
section
variable {X : Cx}
def rGetT : R2 := fun x y H Q => ∃ a v, x = .ref a ∧ DGet H a y (some v) ∧ Q v H
theorem ix_dictT (hu : X.A.units + 1 < cLine) : IxR X rGetT := by
  intro value slice pins s σ H x y v u Q I rx ry h hs
  obtain ⟨a, z, rfl, g, q⟩ := h
  cases rx
  exact tail_any (dict_typeIs I g) PySem.F.slot_dict_getitem.lookup (d_getItem hu I g ry fun w' s3 I3 rw' => ⟨z, H, I3, rw', q⟩) hs
def rGetK (K : PySem.W.Frag) (w : World) : R2 := fun x y H Q => ∃ d z v, x = .ref d ∧ y = .str z ∧ KGet K w d z (some v) ∧ Q v H
theorem ix_dictK : IxR X (rGetK X.K X.w) := by
  intro value slice pins s σ H x y v u Q I rx ry h hs
  obtain ⟨d, z, r, rfl, rfl, ⟨es, n, D, ⟨e0, _⟩ | ⟨u0, v0, e0, e1, r0⟩⟩, q⟩ := h
  · cases e0
  · cases e0
    have ry' := ry
    cases rx
    exact tail_any (kd_type D I) PySem.F.slot_dict_getitem.lookup (op_item_kd D pins s σ H (.ref d) (.str z) (.ref d) u Q I rfl ry' ⟨z, u0, r, rfl, rfl, e1, r0, q⟩) hs
def rIxG (K : PySem.W.Frag) (w : World) : R2 := fun x y H Q => rIx K x y H Q ∨ rGetT x y H Q ∨ rGetK K w x y H Q
theorem ix_any (hu : X.A.units + 1 < cLine) : IxR X (rIxG X.K X.w) := ix_seq.or ((ix_dictT hu).or ix_dictK)
def tIxG (K : PySem.W.Frag) (w : World) (ta tb : TE) : TE := tOp (rIxG K w) ta tb
theorem pe_ixG {a b : Expr} {ta tb : TE} {pos : Pos} (hu : X.A.units + 1 < cLine) (ha : PE X a ta) (hb : PE X b tb) (hs : PlainIx b) : PE X (.Subscript a b pos) (tIxG X.K X.w ta tb) := pe_ix (ix_any hu) ha hb hs
def rSlG (K : PySem.W.Frag) : V → Option Int → Option Int → Hp → VK → Prop := fun x lo hi H Q => (∃ a xs, x = .ref a ∧ SqL K H a xs ∧ New H (.lst (cutV xs lo hi)) fun p H' => Q (.ref p) H') ∨
  (∃ a xs, x = .ref a ∧ SqT K H a xs ∧ (HT.sIx xs.length 0 lo = 0 ∧ HT.sIx xs.length xs.length hi = xs.length → Q (.ref a) H) ∧ (¬ (HT.sIx xs.length 0 lo = 0 ∧ HT.sIx xs.length xs.length hi = xs.length) → New H (.tup (cutV xs lo hi)) fun p H' => Q (.ref p) H')) ∨ rSlS x lo hi H Q
theorem sl_any : SlR X (rSlG X.K) := slr_imp (sl_list.or (sl_tupA.or sl_str)) fun x lo hi H Q h => by
  rcases h with ⟨a, xs, e, h, n⟩ | ⟨a, xs, e, h, n1, n2⟩ | h
  · exact .inl ⟨a, xs, e, h, n.at⟩
  · exact .inr (.inl ⟨a, xs, e, h, n1, fun z => (n2 z).at⟩)
  · exact .inr (.inr h)
def tRevG (K : PySem.W.Frag) (te : TE) : TE := fun σ H Q => te σ H fun x H1 => ∃ a xs, x = .ref a ∧ SqL K H1 a xs ∧ New H1 (.lst xs.reverse) fun p H' => Q (.ref p) H'
theorem pe_revG {e : Expr} {te : TE} {k : Nat} {p1 p2 p3 pos : Pos} (he : PE X e te) : PE X (.Subscript e (.Slice none none (some (.UnaryOp .USub (.Constant (.int 1) k p1) p2)) p3) pos) (tRevG X.K te) :=
  ⟨fun pins s σ H Q I q => (pe_revL (pe_cl he)).run pins s σ H Q I ⟨_, q, fun x H1 ⟨a, xs, e, h, n⟩ => ⟨a, xs, e, h, n.at⟩⟩⟩
def rSetD : TSet := fun o i v H Q => ∃ a H', o = .ref a ∧ DPut H a i v H' ∧ Q H'
theorem set_dict (hu : X.A.units + 1 < cLine) : PSet X rSetD := by
  intro pins s σ H o i v ov iv u Q I ro ri rv h
  obtain ⟨a, H', rfl, g, q⟩ := h
  cases ro
  exact d_setItem hu I g ri rv fun s' I' => ⟨H', I', q⟩
def rSetG : TSet := fun o i v H Q => (∃ p xs k j, o = .ref p ∧ i = .int k ∧ H p = some (.lst xs) ∧ ixN xs.length k = some j ∧ Put H p (.lst (xs.set j v)) Q) ∨
  (∃ a kvs k, o = .ref a ∧ H a = some (.dK kvs) ∧ i = kV k ∧ kvs.length < sizeLine ∧ Put H a (.dK (putK kvs k v)) Q)
theorem set_any (hu : X.A.units + 1 < cLine) : PSet X rSetG := by
  intro pins s σ H o i v ov iv u Q I ro ri rv h
  rcases h with ⟨p, xs, k, j, e1, e2, h1, h2, q⟩ | ⟨a, kvs, k, e1, h1, e2, hl, q⟩
  · exact set_list pins s σ H o i v ov iv u Q I ro ri rv ⟨p, xs, k, j, e1, e2, h1, h2, q.at⟩
  · exact set_dict hu pins s σ H o i v ov iv u Q I ro ri rv ⟨a, _, e1, .inl ⟨kvs, k, h1, e2, hl, rfl⟩, q.at⟩
/-! ### tests by truth -/
def tTru (K : PySem.W.Frag) (ta : TE) : TT := fun σ H Q => ta σ H fun x H' => ∃ k, TruV K x H' k ∧ Q k H'
theorem pt_tru {a : Expr} {ta : TE} (ha : PE X a ta) (he : ∀ whole, isTrue a X.env whole = (do let v ← whole; standAt a.pos; holding [v] (truthy v))) : PT X a (tTru X.K ta) := pt_truth ha he
/-! ### builtins -/
abbrev rAbsG : List V → Hp → VK → Prop := fun xs H Q => ∃ i, xs = [.int i] ∧ Q (.int (if i < 0 then -i else i)) H
abbrev rMax2 : List V → Hp → VK → Prop := fun xs H Q => ∃ i j, xs = [.int i, .int j] ∧ Q (.int (if j > i then j else i)) H
abbrev rMin2 : List V → Hp → VK → Prop := fun xs H Q => ∃ i j, xs = [.int i, .int j] ∧ Q (.int (if j < i then j else i)) H
def rIntS : List V → Hp → VK → Prop := fun xs H Q => ∃ a n, xs = [.str a] ∧ PySem.intText? a = some n ∧ a.length ≤ 640 ∧ Q (.int n) H
def rIntG : List V → Hp → VK → Prop := fun xs H Q => (∃ i, xs = [.int i] ∧ Q (.int i) H) ∨ ∃ k, xs = [.bl k] ∧ Q (.int (if k then 1 else 0)) H
theorem call_intG : CallR X (.type "int") rIntG := call_int1
abbrev rBool1 : List V → Hp → VK → Prop := fun xs H Q => (∃ i, xs = [.int i] ∧ Q (.bl (i != 0)) H) ∨ ∃ k, xs = [.bl k] ∧ Q (.bl k) H
abbrev rStrG : List V → Hp → VK → Prop := fun xs H Q => ∃ i, xs = [.int i] ∧ i.natAbs.log2 < 1920 ∧ Q (.str (toString i)) H
def rListG (K : PySem.W.Frag) : List V → Hp → VK → Prop := fun xs H Q => (∃ p ys, xs = [.ref p] ∧ (SqL K H p ys ∨ SqT K H p ys) ∧ New H (.lst ys) fun l H' => Q (.ref l) H') ∨
  ∃ p kvs, xs = [.ref p] ∧ H p = some (.dK kvs) ∧ New H (.lst (kvs.map fun kv => kV kv.1)) fun q H' => Q (.ref q) H'
theorem call_listG (hc : X.calm = true) : CallR X (.type "list") (rListG X.K) := callr_imp (CallR.or call_list_of (call_list_dK hc)) fun xs H Q h => by
  rcases h with ⟨p, ys, e, h, n⟩ | ⟨p, kvs, e, h, n⟩
  · exact .inl ⟨p, ys, e, h, n.at⟩
  · exact .inr ⟨p, kvs, e, h, n.at⟩
def rTupleG (K : PySem.W.Frag) : List V → Hp → VK → Prop := fun xs H Q => ∃ p ys, xs = [.ref p] ∧ ((SqL K H p ys ∧ New H (.tup ys) fun l H' => Q (.ref l) H') ∨ (SqT K H p ys ∧ Q (.ref p) H))
theorem call_tupleG : CallR X (.type "tuple") (rTupleG X.K) := callr_imp call_tuple_of fun xs H Q ⟨p, ys, e, h⟩ => ⟨p, ys, e, h.imp (fun ⟨a, n⟩ => ⟨a, n.at⟩) id⟩
/-! ### methods of lists and texts -/
def rAppendG : V → List V → Hp → VK → Prop := fun x vs H Q => ∃ l xs y, x = .ref l ∧ vs = [y] ∧ H l = some (.lst xs) ∧ xs.length < sizeLine ∧ Put H l (.lst (xs ++ [y])) fun H' => Q .non H'
theorem mt_appendG : MtR X "list.append" rAppendG := mtr_imp mt_append fun x xs H Q ⟨l, ys, y, e1, e2, h, hl, q⟩ => ⟨l, ys, y, e1, e2, h, hl, q.at⟩
def rExtendG : V → List V → Hp → VK → Prop := fun x vs H Q => ∃ l b xs zs, x = .ref l ∧ vs = [.ref b] ∧ H l = some (.lst xs) ∧ H b = some (.lst zs) ∧ xs.length + zs.length ≤ sizeLine ∧ Put H l (.lst (xs ++ zs)) fun H' => Q .non H'
theorem mt_extendG : MtR X "list.extend" rExtendG := mtr_imp mt_extend fun x xs H Q ⟨l, b, ys, zs, e1, e2, h, h2, hl, q⟩ => ⟨l, b, ys, zs, e1, e2, h, h2, hl, q.at⟩
def rPopG : V → List V → Hp → VK → Prop := fun x vs H Q => ∃ l xs y, x = .ref l ∧ vs = [] ∧ H l = some (.lst xs) ∧ xs[xs.length - 1]? = some y ∧ Put H l (.lst xs.dropLast) fun H' => Q y H'
theorem mt_popG : MtR X "list.pop" rPopG := mtr_imp mt_pop fun x xs H Q ⟨l, ys, y, e1, e2, h, hl, q⟩ => ⟨l, ys, y, e1, e2, h, hl, q.at⟩
abbrev rIsiG := rIsi
theorem call_isiG : CallR X (.builtin "isinstance") (rIsiG X.K) := call_isi
def rSplitG : V → List V → Hp → VK → Prop := fun x xs H Q => ∃ a b, x = .str a ∧ xs = [.str b] ∧ (b.length == 0) = false ∧ a.length + 2 ≤ sizeLine ∧ New H (.lst ((Txt.split a b).map V.str)) fun p H' => Q (.ref p) H'
abbrev rJoinG (K : PySem.W.Frag) : V → List V → Hp → VK → Prop := fun x xs H Q => ∃ a p, ∃ ys : List Str, x = .str a ∧ xs = [.ref p] ∧ (SqL K H p (ys.map V.str) ∨ SqT K H p (ys.map V.str)) ∧
      (ys.map (·.length)).sum + ys.length * a.length ≤ 16777216 ∧ Q (.str (Txt.join a ys)) H
theorem pe_splitG {o e : Expr} {to te : TE} {apos pos : Pos} (ho : PE X o to) (he : PE X e te) (hs : starEach [e] X.env = [(false, eval e X.env)] := by rfl) (hbase : attributeBase o "split" X.env (eval o X.env) = eval o X.env := by rfl) (hline : (apos.endLine == pos.line) = true := by rfl) :
    PE X (.Call (.Attribute o "split" apos) [e] [] pos) (tM1 rSplitG to te) :=
  pe_m1 F.slot_str_split F.type_str_split (mtr_imp mt_split fun x xs H Q ⟨a, b, e1, e2, h1, h2, n⟩ => ⟨a, b, e1, e2, h1, h2, n.at⟩) ho he hs hbase hline
/-- a module's constant by its value -/
theorem pe_gc {x : Str} {v : V} {pos : Pos} (hg : Gl X x) (h : ∃ u, X.mg x = some u ∧ RelV v u) (hd : (x == ("__debug__" : Str)) = false := by decide) : PE X (.Name x pos) (tC v) := by
  obtain ⟨u, h1, h2⟩ := h
  exact pe_glob hg h1 h2 hd
end
/-! ### calls of the text's own defs -/
/-- a def that may be called by its name (no exception leaves it) -/
structure Cal (P : Program) (w : World) (K : PySem.W.Frag) (mg : Str → Option Value) (base : Heap) (k : Nat) (x : Str) (sp : Sp) : Prop where
  ex : ∃ (f : Addr) (fd : FuncData) (ps : List Str), FnOk P w K mg base CX0 k f fd ps sp ∧ mg x = some (.ref f) ∧ PySem.W.keepIn K (.ref f) = true ∧ Binds K fd ps []
section
variable {P : Program} {w : World} {K : PySem.W.Frag} {mg : Str → Option Value} {base : Heap}
theorem Cal.mono {j k : Nat} {x : Str} {sp : Sp} (c : Cal P w K mg base j x sp) (h : j ≤ k) : Cal P w K mg base k x sp := by
  obtain ⟨f, fd, ps, F, a, b, d⟩ := c.ex
  exact ⟨f, fd, ps, F.mono h, a, b, d⟩
theorem Cal.imp {k : Nat} {x : Str} {sp sp' : Sp} (c : Cal P w K mg base k x sp) (h : ∀ vs H Q E, sp' vs H Q E → sp vs H Q E) : Cal P w K mg base k x sp' := by
  obtain ⟨f, fd, ps, F, a, b, d⟩ := c.ex
  exact ⟨f, fd, ps, F.imp h, a, b, d⟩
theorem cal_mk {x : Str} {params : Arguments} {body : List Stmt} {scope : Scope} {f : Addr} {fd : FuncData} {N ps : List Str} {k : Nat} {sp : Sp} (F : FunD K x x params body scope [] [] f fd) (hm : mg x = some (.ref f)) (S : FnScope N ps scope)
    (b : Binds K fd ps []) (len : ∀ vs H Q E, sp vs H Q E → vs.length = ps.length)
    (hbody : ∀ (cdv : Value) (A : Around) (outer : List Env) (s : Shared) (H : Hp) (vs : List V) (Q : VK) (E : XK), Room k (A.deeper (envOfC x scope s.heap.objs.size f cdv)) → sp vs H Q E →
      ∃ t, PSs (cxOf CX0 P w K mg base N x scope f cdv A outer s H E) body t ∧ t { nx := fun _ H' => Q .non H', rt := Q } (start N vs) H) : Cal P w K mg base (k + 1) x sp :=
  ⟨f, fd, ps, F.ok S len hbody, hm, F.kp, b⟩
end
section
variable {X : Cx} {k : Nat} {x : Str} {sp : Sp} {p pos : Pos} {e : Expr} {es : List Expr} {t : TA}
theorem pe_cal (c : Cal X.prog X.w X.K X.mg X.base k x sp) (hr : Room k X.A) (hg : Gl X x) (ha : PA X (e :: es) t)
    (hdb : (x == ("__debug__" : Str)) = false := by decide) (he : starEach (e :: es) X.env = (false, eval e X.env) :: starEach es X.env := by rfl) (hpl : (backTo pos (starEach es X.env)).any (·.1) = false := by rfl) :
    PE X (.Call (.Name x p) (e :: es) [] pos) (tCall sp [] E0 t) := by
  obtain ⟨f, fd, ps, F, a, b, d⟩ := c.ex
  exact pe_call F hr hg a b d .nil pass0 ha hdb he hpl
theorem pe_cal0 (c : Cal X.prog X.w X.K X.mg X.base k x sp) (hr : Room k X.A) (hg : Gl X x)
    (hdb : (x == ("__debug__" : Str)) = false := by decide) : PE X (.Call (.Name x p) [] [] pos) (tCall sp [] E0 tNil) := by
  obtain ⟨f, fd, ps, F, a, b, d⟩ := c.ex
  exact pe_call0 F hr hg a b d .nil pass0 hdb
end
/-- the slots at the entry: m of them -/
def startN (m : Nat) (vs : List V) : L2.St := vs.map some ++ List.replicate (m - vs.length) none
/-- what of a def is shown without the text: its reading, run at its parameters' values, keeps its promise -/
structure PureOk (n : Nat) (sp : Sp) (t : TS) (m : Nat) : Prop where
  len : ∀ vs H Q E, sp vs H Q E → vs.length = n
  run : ∀ vs H Q E, sp vs H Q E → t { nx := fun _ H' => Q .non H', rt := Q } (startN m vs) H
/-- a written table with text keys -/
def KTab (K : PySem.W.Frag) (w : World) (d : Addr) (kvs : List (Str × V)) : Prop := ∀ z : Str, KGet K w d z ((kvs.find? fun q => decide (q.1 = z)).map (·.2))

/-! ### readings, step by step -/
section
variable {K : PySem.W.Frag} {w : World} {D : Ends} {σ σ' : L2.St} {H : Hp} {Q : VK} {v x y : V} {i j : Int} {n : Nat} {ta tb tc te : TE} {t u : TS} {p a b : Addr} {xs ys : List V} {s z : Str}
theorem g_seq (h : t { D with nx := u D } σ H) : tSeq t u D σ H := h
theorem g_next (h : D.nx σ H) : tNext D σ H := h
theorem g_ret (h : te σ H D.rt) : tRet te D σ H := h
theorem g_drop (h : te σ H fun _ H1 => D.nx σ H1) : tDrop te D σ H := h
theorem g_ifs {c : TT} (h : c σ H fun b H1 => if b = true then t D σ H1 else u D σ H1) : tIfS c t u D σ H := h
theorem g_asg {g : TG} (h : te σ H fun x H1 => g x σ H1 D.nx) : tAsg te g D σ H := h
theorem g_par {k l : Nat} {ta : TA} (h : ta σ H fun vs H1 => ∃ v w, vs = [v, w] ∧ D.nx ((σ.set k (some v)).set l (some w)) H1) : tPar k l ta D σ H := h
theorem g_name {Q : L2.St → Hp → Prop} {k : Nat} (h : σ.set k (some v) = σ') (q : Q σ' H) : gName k v σ H Q := by subst h; exact q
theorem g_sub {to ti : TE} {ts : TSet} {Q : L2.St → Hp → Prop} (h : to σ H fun o H1 => ti σ H1 fun i H2 => ts o i v H2 fun H3 => Q σ H3) : gSub to ti ts v σ H Q := h
theorem g_var {k : Nat} (h : σ[k]? = some (some v)) (q : Q v H) : tVar k σ H Q := ⟨v, h, q⟩
theorem g_c (q : Q v H) : tC v σ H Q := q
theorem g_op {r : R2} (h : ta σ H fun x H1 => tb σ H1 fun y H2 => r x y H2 Q) : tOp r ta tb σ H Q := h
theorem g_ixop (h : ta σ H fun x H1 => tb σ H1 fun y H2 => rIxG K w x y H2 Q) : tIxG K w ta tb σ H Q := h
theorem g_un {r : V → Hp → VK → Prop} (h : ta σ H fun x H1 => r x H1 Q) : tUn r ta σ H Q := h
theorem g_neg (q : Q (.int (-i)) H) : rU (fun i => .int (-i)) (.int i) H Q := ⟨i, rfl, q⟩
theorem g_test {Q : Bool → Hp → Prop} (h : te σ H fun x H' => ∃ k, x = .bl k ∧ Q k H') : tTest te σ H Q := h
theorem g_not {c : TT} {Q : Bool → Hp → Prop} (h : c σ H fun c H1 => Q (!c) H1) : tNot c σ H Q := h
theorem g_and {c d : TT} {Q : Bool → Hp → Prop} (h : c σ H fun c H1 => if c = true then d σ H1 Q else Q false H1) : tAnd c d σ H Q := h
theorem g_or {c d : TT} {Q : Bool → Hp → Prop} (h : c σ H fun c H1 => if c = true then Q true H1 else d σ H1 Q) : tOr c d σ H Q := h
theorem g_tru {Q : Bool → Hp → Prop} (h : ta σ H fun x H' => ∃ k, TruV K x H' k ∧ Q k H') : tTru K ta σ H Q := h
theorem g_trubl {R : Bool → Prop} {k : Bool} (q : R k) : ∃ k', TruV K (.bl k) H k' ∧ R k' := ⟨k, rfl, q⟩
theorem g_truint {R : Bool → Prop} (q : R (i != 0)) : ∃ k', TruV K (.int i) H k' ∧ R k' := ⟨_, rfl, q⟩
theorem g_trul {R : Bool → Prop} (h : SqL K H a xs) (q : R (!xs.isEmpty)) : ∃ k', TruV K (.ref a) H k' ∧ R k' := ⟨_, .inl ⟨xs, h, rfl⟩, q⟩
theorem g_bl {R : Bool → Prop} {k : Bool} (q : R k) : ∃ k', V.bl k = .bl k' ∧ R k' := ⟨k, rfl, q⟩
theorem g_ifx {c : TT} (h : c σ H fun c H1 => if c = true then ta σ H1 Q else tb σ H1 Q) : tIf c ta tb σ H Q := h
theorem g_andT (h : ta σ H fun x H1 => ∃ k, TruV K x H1 k ∧ if k = true then tb σ H1 Q else Q x H1) : tAndT K ta tb σ H Q := h
theorem g_orT (h : ta σ H fun x H1 => ∃ k, TruV K x H1 k ∧ if k = true then Q x H1 else tb σ H1 Q) : tOrT K ta tb σ H Q := h
theorem g_notT (h : ta σ H fun x H1 => ∃ k, TruV K x H1 k ∧ Q (.bl (!k)) H1) : tNotT K ta σ H Q := h
theorem g_nil {Q : List V → Hp → Prop} (q : Q [] H) : tNil σ H Q := q
theorem g_cons {Q : List V → Hp → Prop} {tr : TA} (h : te σ H fun x H1 => tr σ H1 fun xs H2 => Q (x :: xs) H2) : tCons te tr σ H Q := h
theorem g_call {sp : Sp} {E : XK} {t : TA} (h : t σ H fun vs H1 => sp (vs ++ []) H1 Q E) : tCall sp [] E t σ H Q := h
theorem g_cb {r : List V → Hp → VK → Prop} {t : TA} (h : t σ H fun vs H1 => r vs H1 Q) : tCB r t σ H Q := h
theorem g_tup {t : TA} (h : t σ H fun xs H1 => xs.length ≤ sizeLine ∧ New H1 (.tup xs) fun p H2 => Q (.ref p) H2) : tTupN t σ H Q := h
theorem g_lst {t : TA} (h : t σ H fun xs H1 => xs.length ≤ sizeLine ∧ New H1 (.lst xs) fun p H2 => Q (.ref p) H2) : tLstN t σ H Q := h
theorem g_len {R : Prop} (hl : xs.length ≤ sizeLine) (q : R) : xs.length ≤ sizeLine ∧ R := ⟨hl, q⟩
theorem g_dnew (h : New H (.dK []) fun p H2 => Q (.ref p) H2) : tDNewKN σ H Q := h
theorem g_disp {trs : List (TE × TE)} (h : New H (.dK []) fun p H1 => tPairs trs σ H1 fun ps H2 => H2 p = some (.dK []) ∧ ∃ kvs : List (Key × V), ps = kvs.map (fun kv => (kV kv.1, kv.2)) ∧ kvs.length ≤ 15 ∧ Put H2 p (.dK (mergeK [] kvs)) fun H' => Q (.ref p) H') : tDispN trs σ H Q := h
theorem g_pnil {Q : List (V × V) → Hp → Prop} (q : Q [] H) : tPairs [] σ H Q := q
theorem g_pcons {Q : List (V × V) → Hp → Prop} {r : List (TE × TE)} (h : ta σ H fun x H1 => tb σ H1 fun y H2 => tPairs r σ H2 fun ps H3 => Q ((x, y) :: ps) H3) : tPairs ((ta, tb) :: r) σ H Q := h
theorem g_pairs {R : List (Key × V) → Prop} {ps : List (V × V)} (kvs : List (Key × V)) (hd : H p = some (.dK [])) (e : ps = kvs.map (fun kv => (kV kv.1, kv.2))) (hl : kvs.length ≤ 15) (q : R kvs) : H p = some (.dK []) ∧ ∃ kvs : List (Key × V), ps = kvs.map (fun kv => (kV kv.1, kv.2)) ∧ kvs.length ≤ 15 ∧ R kvs := ⟨hd, kvs, e, hl, q⟩
theorem g_get2 (h : ta σ H fun x H1 => ∃ a, x = .ref a ∧ IsD H1 a ∧ tb σ H1 fun y H2 => tc σ H2 fun z H3 => ∃ o, DGet H3 a y o ∧ Q (o.getD z) H3) : tDGet2 ta tb tc σ H Q := h
theorem g_isd {R : Addr → Prop} {kvs : List (Key × V)} (h : H p = some (.dK kvs)) (q : R p) : ∃ a, V.ref p = .ref a ∧ IsD H a ∧ R a := ⟨p, rfl, .inl ⟨kvs, .of h⟩, q⟩
theorem g_dget {R : Option V → Prop} {kvs : List (Key × V)} {k : Key} (h : H p = some (.dK kvs)) (e : x = kV k) (q : R (valV kvs k)) : ∃ o, DGet H p x o ∧ R o := ⟨_, .inl ⟨kvs, k, .of h, e, rfl⟩, q⟩
theorem g_bm {T : String} {r : V → List V → Hp → VK → Prop} {to : TE} {t : TA} (h : to σ H fun x H1 => tyV K T x H1 ∧ t σ H1 fun xs H2 => r x xs H2 Q) : tBM K T r to t σ H Q := h
theorem g_bm0 {T : String} {r : V → List V → Hp → VK → Prop} {to : TE} (h : to σ H fun x H1 => tyV K T x H1 ∧ r x [] H1 Q) : tBM0 K T r to σ H Q := h
theorem g_tyl {R : Prop} (h : SqL K H a xs) (q : R) : tyV K "list" (.ref a) H ∧ R := ⟨.inl ⟨rfl, xs, h⟩, q⟩
theorem g_m1 {r : V → List V → Hp → VK → Prop} {to te : TE} (h : to σ H fun x H1 => (∃ a, x = .str a) ∧ te σ H1 fun y H2 => r x [y] H2 Q) : tM1 r to te σ H Q := h
theorem g_isstr {R : Prop} (q : R) : (∃ a, V.str s = .str a) ∧ R := ⟨⟨s, rfl⟩, q⟩
/-- the operators by kinds -/
theorem g_addI (q : Q (.int (i + j)) H) : rAddG K (.int i) (.int j) H Q := .inl ⟨i, j, rfl, rfl, q⟩
theorem g_addS (hl : s.length + z.length ≤ sizeLine) (q : Q (.str (s ++ z)) H) : rAddG K (.str s) (.str z) H Q := .inr (.inl ⟨s, z, rfl, rfl, hl, q⟩)
theorem g_addL (h1 : H a = some (.lst xs)) (h2 : H b = some (.lst ys)) (hl : xs.length + ys.length ≤ sizeLine) (q : New H (.lst (xs ++ ys)) fun p H' => Q (.ref p) H') : rAddG K (.ref a) (.ref b) H Q := .inr (.inr (.inl ⟨a, b, xs, ys, rfl, rfl, h1, h2, hl, q⟩))
theorem g_addT (h1 : SqT K H a xs) (h2 : SqT K H b ys) (hl : xs.length + ys.length ≤ sizeLine) (n1 : xs ≠ []) (n2 : ys ≠ []) (q : New H (.tup (xs ++ ys)) fun p H' => Q (.ref p) H') : rAddG K (.ref a) (.ref b) H Q :=
  .inr (.inr (.inr ⟨a, b, xs, ys, rfl, rfl, h1, h2, hl, fun e => absurd e n1, fun _ e => absurd e n2, fun _ _ => q⟩))
theorem g_subI (q : Q (.int (i - j)) H) : rSubG (.int i) (.int j) H Q := ⟨i, j, rfl, rfl, q⟩
theorem g_mulI (hc : CMul i j) (q : Q (.int (i * j)) H) : rMulG (.int i) (.int j) H Q := .inl ⟨i, j, rfl, rfl, hc, q⟩
theorem g_divI (hc : CDivW i j) (q : Q (.int (i / j)) H) : rDivG (.int i) (.int j) H Q := ⟨i, j, rfl, rfl, hc, q⟩
theorem g_modI (hc : 0 < j) (q : Q (.int (i % j)) H) : rModG (.int i) (.int j) H Q := ⟨i, j, rfl, rfl, hc, q⟩
theorem g_powI (hc : CPow i j) (q : Q (.int (i ^ j.toNat)) H) : rPowG (.int i) (.int j) H Q := ⟨i, j, rfl, rfl, hc, q⟩
theorem g_ltI (q : Q (.bl (decide (i < j))) H) : rLtG (.int i) (.int j) H Q := ⟨i, j, rfl, rfl, q⟩
theorem g_leI (q : Q (.bl (decide (i ≤ j))) H) : rLeG (.int i) (.int j) H Q := ⟨i, j, rfl, rfl, q⟩
theorem g_gtI (q : Q (.bl (decide (j < i))) H) : rGtG (.int i) (.int j) H Q := ⟨i, j, rfl, rfl, q⟩
theorem g_geI (q : Q (.bl (decide (j ≤ i))) H) : rGeG (.int i) (.int j) H Q := ⟨i, j, rfl, rfl, q⟩
theorem g_eqI (q : Q (.bl (decide (i = j))) H) : rEqG K (.int i) (.int j) H Q := .inl ⟨rfl, by rw [show decide (V.int i = V.int j) = decide (i = j) from by simp]; exact q⟩
theorem g_eqS (q : Q (.bl (decide (s = z))) H) : rEqG K (.str s) (.str z) H Q := .inl ⟨rfl, by rw [show decide (V.str s = V.str z) = decide (s = z) from by simp]; exact q⟩
theorem g_neI (q : Q (.bl (!decide (i = j))) H) : rNeG K (.int i) (.int j) H Q := .inl ⟨rfl, by rw [show decide (V.int i = V.int j) = decide (i = j) from by simp]; exact q⟩
theorem g_neS (q : Q (.bl (!decide (s = z))) H) : rNeG K (.str s) (.str z) H Q := .inl ⟨rfl, by rw [show decide (V.str s = V.str z) = decide (s = z) from by simp]; exact q⟩
theorem g_eqD {d e : PyData} (h1 : Dp K H x d) (h2 : Dp K H y e) (h3 : SeqAt.shaped d = true) (h4 : SeqAt.shaped e = true) (q : Q (.bl (PyData.eqv d e)) H) : rEqG K x y H Q := .inr (.inl ⟨d, e, h1, h2, h3, h4, q⟩)
theorem g_neD {d e : PyData} (h1 : Dp K H x d) (h2 : Dp K H y e) (h3 : SeqAt.shaped d = true) (h4 : SeqAt.shaped e = true) (q : Q (.bl (!PyData.eqv d e)) H) : rNeG K x y H Q := .inr (.inl ⟨d, e, h1, h2, h3, h4, q⟩)
theorem g_ixL (h : SqL K H p xs) (e : atI xs i = some v) (q : Q v H) : rIxG K w (.ref p) (.int i) H Q := .inl (.inl ⟨p, xs, i, v, rfl, rfl, h, e, q⟩)
theorem g_ixT (h : SqT K H p xs) (e : atI xs i = some v) (q : Q v H) : rIxG K w (.ref p) (.int i) H Q := .inl (.inr (.inl ⟨p, xs, i, v, rfl, rfl, h, e, q⟩))
theorem g_ixS {c : Nat} (hl : s.length ≤ sizeLine) (e : atI s.cps.toList i = some c) (q : Q (.str ⟨#[c]⟩) H) : rIxG K w (.str s) (.int i) H Q := .inl (.inr (.inr ⟨s, i, c, rfl, rfl, hl, e, q⟩))
theorem g_ixD {kvs : List (Key × V)} {k : Key} (h : H p = some (.dK kvs)) (hx : x = kV k) (e : valV kvs k = some v) (q : Q v H) : rIxG K w (.ref p) x H Q := .inr (.inl ⟨p, v, rfl, .inl ⟨kvs, k, .of h, hx, e.symm⟩, q⟩)
theorem g_setL {R : Hp → Prop} {k : Nat} (h : H p = some (.lst xs)) (e : ixN xs.length i = some k) (q : Put H p (.lst (xs.set k v)) R) : rSetG (.ref p) (.int i) v H R := .inl ⟨p, xs, i, k, rfl, rfl, h, e, q⟩
theorem g_setK {R : Hp → Prop} {kvs : List (Key × V)} {k : Key} (h : H p = some (.dK kvs)) (e : x = kV k) (hl : kvs.length < sizeLine) (q : Put H p (.dK (putK kvs k v)) R) : rSetG (.ref p) x v H R := .inr ⟨p, kvs, k, rfl, h, e, hl, q⟩
theorem g_lenL (h : SqL K H p xs) (q : Q (.int xs.length) H) : rLenG K [.ref p] H Q := .inl ⟨.ref p, xs.length, rfl, .inl ⟨xs, h, rfl⟩, q⟩
theorem g_lenT (h : SqT K H p xs) (q : Q (.int xs.length) H) : rLenG K [.ref p] H Q := .inl ⟨.ref p, xs.length, rfl, .inr ⟨xs, h, rfl⟩, q⟩
theorem g_lenS (h : s.length ≤ sizeLine) (q : Q (.int s.length) H) : rLenG K [.str s] H Q := .inl ⟨.str s, s.length, rfl, ⟨h, rfl⟩, q⟩
theorem g_abs (q : Q (.int i.natAbs) H) : rAbsG [.int i] H Q := ⟨i, rfl, by rw [show (if i < 0 then -i else i) = (i.natAbs : Int) from by split <;> omega]; exact q⟩
theorem g_max2 (q : Q (.int (max i j)) H) : rMax2 [.int i, .int j] H Q := ⟨i, j, rfl, by rw [show (if j > i then j else i) = max i j from by split <;> omega]; exact q⟩
theorem g_min2 (q : Q (.int (min i j)) H) : rMin2 [.int i, .int j] H Q := ⟨i, j, rfl, by rw [show (if j < i then j else i) = min i j from by split <;> omega]; exact q⟩
theorem g_intI (q : Q (.int i) H) : rIntG [.int i] H Q := .inl ⟨i, rfl, q⟩
theorem g_intB {k : Bool} (q : Q (.int (if k then 1 else 0)) H) : rIntG [.bl k] H Q := .inr ⟨k, rfl, q⟩
theorem g_listL (h : SqL K H p xs) (q : New H (.lst xs) fun l H' => Q (.ref l) H') : rListG K [.ref p] H Q := .inl ⟨p, xs, rfl, .inl h, q⟩
theorem g_listT (h : SqT K H p xs) (q : New H (.lst xs) fun l H' => Q (.ref l) H') : rListG K [.ref p] H Q := .inl ⟨p, xs, rfl, .inr h, q⟩
theorem g_tupleL (h : SqL K H p xs) (q : New H (.tup xs) fun l H' => Q (.ref l) H') : rTupleG K [.ref p] H Q := ⟨p, xs, rfl, .inl ⟨h, q⟩⟩
theorem g_tupleT (h : SqT K H p xs) (q : Q (.ref p) H) : rTupleG K [.ref p] H Q := ⟨p, xs, rfl, .inr ⟨h, q⟩⟩
theorem g_append (h : H a = some (.lst xs)) (hl : xs.length < sizeLine) (q : Put H a (.lst (xs ++ [v])) fun H' => Q .non H') : rAppendG (.ref a) [v] H Q := ⟨a, xs, v, rfl, rfl, h, hl, q⟩
theorem g_extend (h : H a = some (.lst xs)) (h2 : H b = some (.lst ys)) (hl : xs.length + ys.length ≤ sizeLine) (q : Put H a (.lst (xs ++ ys)) fun H' => Q .non H') : rExtendG (.ref a) [.ref b] H Q := ⟨a, b, xs, ys, rfl, rfl, h, h2, hl, q⟩
theorem g_pop (h : H a = some (.lst (xs ++ [v]))) (q : Put H a (.lst xs) fun H' => Q v H') : rPopG (.ref a) [] H Q := ⟨a, xs ++ [v], v, rfl, rfl, h, by simp, by simpa using q⟩
/-- a common rest of several ways -/
structure Rest (B : Prop) : Prop where
  out : B
theorem g_cut {A B : Prop} (f : Rest B → A) (b : B) : A := f ⟨b⟩
/-- the slices -/
theorem g_sl {r : V → Option Int → Option Int → Hp → VK → Prop} {tl th : TO} (h : te σ H fun x H1 => tl σ H1 fun l H2 => th σ H2 fun u H3 => r x l u H3 Q) : tSl r te tl th σ H Q := h
theorem g_nopart {Q : Option Int → Hp → Prop} (q : Q none H) : tNoPart σ H Q := q
theorem g_part {Q : Option Int → Hp → Prop} (h : te σ H fun x H1 => ∃ i, x = .int i ∧ Q (some i) H1) : tPart te σ H Q := h
theorem g_ispart {R : Int → Prop} (q : R i) : ∃ i', V.int i = .int i' ∧ R i' := ⟨i, rfl, q⟩
theorem g_slL {lo hi : Option Int} (h : SqL K H p xs) (q : New H (.lst (cutV xs lo hi)) fun l H' => Q (.ref l) H') : rSlG K (.ref p) lo hi H Q := .inl ⟨p, xs, rfl, h, q⟩
theorem g_slT {lo hi : Option Int} (h : SqT K H p xs) (hw : ¬ (HT.sIx xs.length 0 lo = 0 ∧ HT.sIx xs.length xs.length hi = xs.length)) (q : New H (.tup (cutV xs lo hi)) fun l H' => Q (.ref l) H') : rSlG K (.ref p) lo hi H Q :=
  .inr (.inl ⟨p, xs, rfl, h, fun e => absurd e hw, fun _ => q⟩)
theorem g_slS {lo hi : Option Int} (hl : s.length ≤ sizeLine) (q : Q (.str (cutS s lo hi)) H) : rSlG K (.str s) lo hi H Q := .inr (.inr ⟨s, rfl, hl, q⟩)
theorem g_rev (h : ta σ H fun x H1 => ∃ a xs, x = .ref a ∧ SqL K H1 a xs ∧ New H1 (.lst xs.reverse) fun p H' => Q (.ref p) H') : tRevG K ta σ H Q := h
theorem g_revL {R : List V → Prop} (h : SqL K H a xs) (q : R xs) : ∃ a' xs, V.ref a = .ref a' ∧ SqL K H a' xs ∧ R xs := ⟨a, xs, rfl, h, q⟩
/-- tests -/
theorem g_T {A B : Prop} {b : Bool} (hb : b = true) (h : A) : if b = true then A else B := by rw [if_pos hb]; exact h
theorem g_F {A B : Prop} {b : Bool} (hb : b = false) (h : B) : if b = true then A else B := by rw [if_neg (by rw [hb]; decide)]; exact h
theorem g_ite {A B : Prop} {b : Bool} (h1 : b = true → A) (h2 : b = false → B) : if b = true then A else B := by
  cases b
  · exact h2 rfl
  · exact h1 rfl
end

section
variable {K : PySem.W.Frag} {w : World} {H : Hp} {v : V} {i j : Int} {p a b : Addr} {xs ys : List V} {Q : VK}
theorem Chg.refl : Chg p H H := fun _ _ _ e => e
theorem Chg.trans {H1 H2 : Hp} (h : Chg p H H1) (h' : Chg p H1 H2) : Chg p H H2 := fun b o n e => h' b o n (h b o n e)
theorem Chg.same {H1 : Hp} (h : Same H H1) : Chg p H H1 := fun b o _ e => h b o e
/-- changes at a new object are none of the old ones -/
theorem Same.chg {H1 H2 : Hp} (h : Same H H1) (hp : H p = none) (c : Chg p H1 H2) : Same H H2 := fun b o e => c b o (ne_of_none e hp) (h b o e)
theorem atI_of {α : Type} {xs : List α} {i : Int} {v : α} (h0 : 0 ≤ i) (h : xs[i.toNat]? = some v) : atI xs i = some v := by
  have := atI_nat h
  rwa [Int.toNat_of_nonneg h0] at this
theorem atI_in {α : Type} {xs : List α} {i : Int} (h0 : 0 ≤ i) (h1 : i < xs.length) : ∃ v, atI xs i = some v ∧ v ∈ xs ∧ xs[i.toNat]? = some v := by
  have h2 : i.toNat < xs.length := by omega
  exact ⟨xs[i.toNat], atI_of h0 (List.getElem?_eq_getElem h2), List.getElem_mem h2, List.getElem?_eq_getElem h2⟩
end
/-! ### loops and comprehensions, by what holds at their turns -/
section
variable {K : PySem.W.Frag} {w : World} {H : Hp} {Q : VK} {p : Addr} {ss : List Str} {k : Str}
theorem inV_str : ∀ ss : List Str, inV (.str k) (ss.map V.str) = decide (k ∈ ss)
  | [] => by simp [inV]
  | s :: ss => by
    have ih := inV_str ss
    unfold inV at ih ⊢
    rw [List.map_cons, List.any_cons, ih]
    show (s == k || decide (k ∈ ss)) = _
    by_cases e : s = k
    · subst e; simp
    · have e' : ¬ k = s := fun z => e z.symm
      rw [show (s == k) = false from by simp [e]]
      simp [e']
theorem flat_strs : ∀ ss : List Str, (ss.map V.str).all flatV = true
  | [] => rfl
  | s :: ss => by rw [List.map_cons, List.all_cons, flat_strs ss]; rfl
theorem g_inT (h : SqT K H p (ss.map V.str)) (q : Q (.bl (decide (k ∈ ss))) H) : rInG K w false (.str k) (.ref p) H Q :=
  .inl ⟨p, ss.map V.str, rfl, .inr h, rfl, flat_strs ss, by rw [inV_str]; exact q⟩
theorem g_notInT (h : SqT K H p (ss.map V.str)) (q : Q (.bl (!decide (k ∈ ss))) H) : rInG K w true (.str k) (.ref p) H Q :=
  .inl ⟨p, ss.map V.str, rfl, .inr h, rfl, flat_strs ss, by rw [inV_str]; exact q⟩
theorem g_inL (h : SqL K H p (ss.map V.str)) (q : Q (.bl (decide (k ∈ ss))) H) : rInG K w false (.str k) (.ref p) H Q :=
  .inl ⟨p, ss.map V.str, rfl, .inl h, rfl, flat_strs ss, by rw [inV_str]; exact q⟩
theorem g_notInL (h : SqL K H p (ss.map V.str)) (q : Q (.bl (!decide (k ∈ ss))) H) : rInG K w true (.str k) (.ref p) H Q :=
  .inl ⟨p, ss.map V.str, rfl, .inl h, rfl, flat_strs ss, by rw [inV_str]; exact q⟩
theorem dp_ints : ∀ ns : List Int, DpAll K H (ns.map V.int) (ns.map PyData.int)
  | [] => .nil
  | n :: ns => .cons (.int n) (dp_ints ns)
theorem shaped_ints (ns : List Int) : SeqAt.shaped (.list (ns.map PyData.int)) = true := by
  have h1 : ∀ ns : List Int, PyData.canLayAll0 (ns.map PyData.int) = true := by
    intro ns
    induction ns with
    | nil => rfl
    | cons n ns ih => simp [PyData.canLayAll0, PyData.canLay0, ih]
  have h2 : ∀ ns : List Int, PyData.depthAll (ns.map PyData.int) ≤ 1 := by
    intro ns
    induction ns with
    | nil => simp [PyData.depthAll]
    | cons n ns ih => simp [PyData.depthAll, PyData.depth] at ih ⊢; omega
  have h3 := h2 ns
  unfold SeqAt.shaped
  rw [show PyData.canLay0 (.list (ns.map PyData.int)) = true from by rw [PyData.canLay0]; exact h1 ns, Bool.true_and]
  rw [decide_eq_true_eq, PyData.depth]
  omega
theorem g_isi {x : V} {a b : String} {r : Bool} (ty : TyOf K H x (.type a)) (h : kitB a b = some r) (q : Q (.bl r) H) : rIsiG K [x, .ty b] H Q := ⟨x, .ty b, .type a, .type b, r, rfl, .ty b, .base ty, kit_ty h, q⟩
end
/-! what is walked -/
section
variable {K : PySem.W.Frag} {te : TE} {ta : TA} {σ : L2.St} {H : Hp} {R : It → Hp → Prop} {n : Int} {p : Addr} {xs : List V} {x : Str}
theorem g_rng1 (h : ta σ H fun vs H1 => ∃ j : Int, vs = [.int j] ∧ -(2 ^ 62) ≤ j ∧ j < 2 ^ 62 ∧ R (Itr 0 j.toNat) H1) : iRng1 ta σ H R := h
theorem g_isrng {R : Int → Prop} (h1 : -(2 ^ 62) ≤ n) (h2 : n < 2 ^ 62) (q : R n) : ∃ j : Int, [V.int n] = [.int j] ∧ -(2 ^ 62) ≤ j ∧ j < 2 ^ 62 ∧ R j := ⟨n, rfl, h1, h2, q⟩
theorem g_seqL (h : te σ H fun x H1 => ∃ a, x = .ref a ∧ (∃ xs, SqL K H1 a xs) ∧ R (Itl K a) H1) : iSeq K te σ H R := .inl h
theorem g_seqT (h : te σ H fun x H1 => ∃ a, x = .ref a ∧ (∃ xs, SqT K H1 a xs) ∧ R (Itt K a) H1) : iSeq K te σ H R := .inr (.inl h)
theorem g_seqS (h : te σ H fun v H1 => ∃ x, v = .str x ∧ R (Its x) H1) : iSeq K te σ H R := .inr (.inr h)
theorem g_isL {R : Addr → Prop} (h : SqL K H p xs) (q : R p) : ∃ a, V.ref p = .ref a ∧ (∃ xs, SqL K H a xs) ∧ R a := ⟨p, rfl, ⟨xs, h⟩, q⟩
theorem g_isT {R : Addr → Prop} (h : SqT K H p xs) (q : R p) : ∃ a, V.ref p = .ref a ∧ (∃ xs, SqT K H a xs) ∧ R a := ⟨p, rfl, ⟨xs, h⟩, q⟩
theorem g_isS {R : Str → Prop} (q : R x) : ∃ y, V.str x = .str y ∧ R y := ⟨x, rfl, q⟩
def LcW (J : It) (g : TG) (tt : TT) (te : TE) (vs : List Nat) (σ : L2.St) (H1 : Hp) (D : Addr) (Qd : Hp → Prop) : Prop := ∃ W : Nat → Nat → Hp → Prop, (∃ m, W 0 m (upd H1 D (.lst []))) ∧ ∀ i m H, W i m H →
  (J.stop i H ∧ Qd H) ∨ (J.go i H ∧ ∃ Nx : Hp → Prop, (∀ H', Nx H' → ∃ m', m' < m ∧ W (i + 1) m' H') ∧ ∀ x H', J.yld i H x H' → g x (wipe σ vs) H' fun σ2 H2 => wipe σ2 vs = wipe σ vs ∧ tt σ2 H2 fun b H3 =>
    if b = true then te σ2 H3 fun y H4 => ∃ acc, H4 D = some (.lst acc) ∧ acc.length < sizeLine ∧ Nx (upd H4 D (.lst (acc ++ [y]))) else Nx H3)
def LcR (J : It) (g : TG) (tt : TT) (te : TE) (vs : List Nat) (σ : L2.St) (H1 : Hp) (R : Addr → Hp → Prop) : Prop := ∀ D, H1 D = none → LcW J g tt te vs σ H1 D (R D)
def ForW (J : It) (g : TG) (tb : TS) (D : Ends) (σ : L2.St) (H1 : Hp) : Prop := ∃ W : Nat → Nat → L2.St → Hp → Prop, (∃ m, W 0 m σ H1) ∧ ∀ i m σ H, W i m σ H →
  (J.stop i H ∧ D.nx σ H) ∨ (J.go i H ∧ ∃ N : L2.St → Hp → Prop, (∀ σ' H', N σ' H' → ∃ m', m' < m ∧ W (i + 1) m' σ' H') ∧ ∀ x H', J.yld i H x H' → g x σ H' fun σ2 H2 => tb { D with nx := N, ct := N, bk := D.nx } σ2 H2)
theorem g_lc {g : TG} {tt : TT} {vs : List Nat} {wi : TI} {Q : VK} (h : wi σ H fun J H1 => LcR J g tt te vs σ H1 fun D H => Q (.ref D) H) : tLc wi g tt te vs σ H Q := h
theorem g_for {g : TG} {wi : TI} {tb : TS} {D : Ends} (h : wi σ H fun J H1 => ForW J g tb D σ H1) : tFor wi g tb D σ H := h
theorem g_yes {Q : Bool → Hp → Prop} (q : Q true H) : tYes σ H Q := q
theorem g_wipe {A B : Prop} (a : A) (b : B) : A ∧ B := ⟨a, b⟩
end
section
variable {J : It} {g : TG} {tb : TS} {D : Ends} {σ : L2.St} {H H1 : Hp} {tt : TT} {te : TE} {vs : List Nat} {d : Addr} {Qd : Hp → Prop}
theorem for_any (n : Nat) (Pv : Nat → L2.St → Hp → Prop) (h0 : Pv 0 σ H) (hgo : ∀ i σ H, i < n → Pv i σ H → J.go i H) (hstop : ∀ σ H, Pv n σ H → J.stop n H)
    (hs : ∀ i x σ H H', i < n → Pv i σ H → J.yld i H x H' → g x σ H' fun σ2 H2 => tb { D with nx := Pv (i + 1), ct := Pv (i + 1), bk := D.nx } σ2 H2) (hd : ∀ σ H, Pv n σ H → D.nx σ H) :
    ForW J g tb D σ H := by
  refine ⟨fun i m σ H => Pv i σ H ∧ i ≤ n ∧ m = n - i, ⟨n, h0, Nat.zero_le _, rfl⟩, fun i m σ H ⟨hp, hi, hm⟩ => ?_⟩
  by_cases hin : i = n
  · subst hin
    exact .inl ⟨hstop _ _ hp, hd _ _ hp⟩
  · have hlt : i < n := by omega
    exact .inr ⟨hgo _ _ _ hlt hp, Pv (i + 1), fun σ' H' h' => ⟨n - (i + 1), by omega, h', hlt, rfl⟩, fun x H' hy => hs i x σ H H' hlt hp hy⟩
/-- the list at d behind the i-th turn -/
def NxR (R : Nat → List V → Hp → Prop) (d : Addr) (i : Nat) (H : Hp) : Prop := ∃ acc, H d = some (.lst acc) ∧ acc.length ≤ i ∧ R i acc H
theorem lc_step {R : Nat → List V → Hp → Prop} {i : Nat} {acc : List V} {y : V} (h : H d = some (.lst acc)) (hl : acc.length ≤ i) (hi : i < sizeLine) (q : Put H d (.lst (acc ++ [y])) fun H5 => R (i + 1) (acc ++ [y]) H5) :
    ∃ acc, H d = some (.lst acc) ∧ acc.length < sizeLine ∧ NxR R d (i + 1) (upd H d (.lst (acc ++ [y]))) :=
  ⟨acc, h, Nat.lt_of_le_of_lt hl hi, acc ++ [y], upd_same, by rw [List.length_append, List.length_singleton]; omega, q.at⟩
theorem lc_any (n : Nat) (R : Nat → List V → Hp → Prop) (hD : H1 d = none) (h0 : ∀ H', H' d = some (.lst []) → Same H1 H' → R 0 [] H') (hgo : ∀ i acc H, i < n → R i acc H → J.go i H) (hstop : ∀ acc H, R n acc H → J.stop n H)
    (hs : ∀ i x acc H H', i < n → acc.length ≤ i → R i acc H → H d = some (.lst acc) → J.yld i H x H' → g x (wipe σ vs) H' fun σ2 H2 => wipe σ2 vs = wipe σ vs ∧ tt σ2 H2 fun b H3 =>
      if b = true then te σ2 H3 fun y H4 => ∃ acc, H4 d = some (.lst acc) ∧ acc.length < sizeLine ∧ NxR R d (i + 1) (upd H4 d (.lst (acc ++ [y]))) else NxR R d (i + 1) H3)
    (hd : ∀ acc H, H d = some (.lst acc) → R n acc H → Qd H) :
    LcW J g tt te vs σ H1 d Qd := by
  refine ⟨fun i m H => NxR R d i H ∧ i ≤ n ∧ m = n - i, ⟨n, ⟨[], upd_same, Nat.le_refl _, h0 _ upd_same (same_upd hD)⟩, Nat.zero_le _, rfl⟩, fun i m H ⟨⟨acc, ha, hl, hr⟩, hi, hm⟩ => ?_⟩
  by_cases hin : i = n
  · subst hin
    exact .inl ⟨hstop _ _ hr, hd _ _ ha hr⟩
  · have hlt : i < n := by omega
    exact .inr ⟨hgo _ _ _ hlt hr, NxR R d (i + 1), fun H' h' => ⟨n - (i + 1), by omega, h', hlt, rfl⟩, fun x H' hy => hs i x acc H H' hlt hl hr ha hy⟩
end

/-! ### data of tuples alone -/
mutual
inductive Tp (H : Hp) : V → PyData → Prop
  | non : Tp H .non .none
  | bl (b : Bool) : Tp H (.bl b) (.bool b)
  | int (i : Int) : Tp H (.int i) (.int i)
  | str (x : Str) : Tp H (.str x) (.str x)
  | tup {a : Addr} {xs : List V} {ds : List PyData} : H a = some (.tup xs) → Tps H xs ds → Tp H (.ref a) (.tuple ds)
inductive Tps (H : Hp) : List V → List PyData → Prop
  | nil : Tps H [] []
  | cons {v : V} {vs : List V} {d : PyData} {ds : List PyData} : Tp H v d → Tps H vs ds → Tps H (v :: vs) (d :: ds)
end
/-- the tuples stay -/
def Tk (H H' : Hp) : Prop := ∀ b xs, H b = some (.tup xs) → H' b = some (.tup xs)
theorem Tk.refl (H : Hp) : Tk H H := fun _ _ e => e
theorem Tk.trans {H H1 H2 : Hp} (a : Tk H H1) (b : Tk H1 H2) : Tk H H2 := fun c xs e => b c xs (a c xs e)
theorem Same.tk {H H' : Hp} (s : Same H H') : Tk H H' := fun b xs e => s b _ e
theorem Chg.tk {H H' : Hp} {a : Addr} (c : Chg a H H') (h : ∀ xs, H a ≠ some (.tup xs)) : Tk H H' := fun b xs e => c b _ (fun z => h xs (z ▸ e)) e
theorem Chg.tkl {H H' : Hp} {a : Addr} {ys : List V} (c : Chg a H H') (h : H a = some (.lst ys)) : Tk H H' := c.tk fun xs e => by rw [h] at e; cases e
mutual
theorem Tp.mono {H H' : Hp} (k : Tk H H') : ∀ {d : PyData} {v : V}, Tp H v d → Tp H' v d
  | .none, _, h => by cases h; exact .non
  | .bool b, _, h => by cases h; exact .bl b
  | .int i, _, h => by cases h; exact .int i
  | .str x, _, h => by cases h; exact .str x
  | .tuple ds, _, h => by
    cases h with
    | tup e r => exact .tup (k _ _ e) (Tps.mono k r)
  | .list ds, _, h => by cases h
  | .dict ds, _, h => by cases h
theorem Tps.mono {H H' : Hp} (k : Tk H H') : ∀ {ds : List PyData} {vs : List V}, Tps H vs ds → Tps H' vs ds
  | [], _, h => by cases h; exact .nil
  | d :: ds, _, h => by
    cases h with
    | cons a b => exact .cons (Tp.mono k a) (Tps.mono k b)
end
mutual
theorem Tp.dp {K : PySem.W.Frag} {H : Hp} : ∀ {d : PyData} {v : V}, Tp H v d → Dp K H v d
  | .none, _, h => by cases h; exact .non
  | .bool b, _, h => by cases h; exact .bl b
  | .int i, _, h => by cases h; exact .int i
  | .str x, _, h => by cases h; exact .str x
  | .tuple ds, _, h => by
    cases h with
    | tup e r => exact .tup (.of e) (Tps.dp r)
  | .list ds, _, h => by cases h
  | .dict ds, _, h => by cases h
theorem Tps.dp {K : PySem.W.Frag} {H : Hp} : ∀ {ds : List PyData} {vs : List V}, Tps H vs ds → DpAll K H vs ds
  | [], _, h => by cases h; exact .nil
  | d :: ds, _, h => by
    cases h with
    | cons a b => exact .cons (Tp.dp a) (Tps.dp b)
end
section
variable {H : Hp} {xs ys : List V} {ds es : List PyData} {v : V} {d : PyData}
theorem Tps.length : ∀ {xs : List V} {ds : List PyData}, Tps H xs ds → xs.length = ds.length
  | [], _, h => by cases h; rfl
  | x :: xs, _, h => by
    cases h with
    | cons a b => rw [List.length_cons, List.length_cons, Tps.length b]
theorem Tps.append : ∀ {xs : List V} {ds : List PyData}, Tps H xs ds → Tps H ys es → Tps H (xs ++ ys) (ds ++ es)
  | [], _, h, h2 => by cases h; exact h2
  | x :: xs, _, h, h2 => by
    cases h with
    | cons a b => exact .cons a (Tps.append b h2)
theorem Tps.one (h : Tp H v d) : Tps H [v] [d] := .cons h .nil
theorem Tps.get : ∀ {xs : List V} {ds : List PyData} {i : Nat} {v : V}, Tps H xs ds → xs[i]? = some v → ∃ d, ds[i]? = some d ∧ Tp H v d
  | [], _, i, v, _, e => by simp at e
  | x :: xs, _, 0, v, h, e => by
    cases h with
    | cons a b =>
      simp only [List.getElem?_cons_zero, Option.some.injEq] at e
      subst e
      exact ⟨_, rfl, a⟩
  | x :: xs, _, i + 1, v, h, e => by
    cases h with
    | cons a b =>
      rw [List.getElem?_cons_succ] at e
      obtain ⟨d, h1, h2⟩ := Tps.get b e
      exact ⟨d, by rw [List.getElem?_cons_succ]; exact h1, h2⟩
theorem Tps.at : ∀ {xs : List V} {ds : List PyData} {i : Nat} {d : PyData}, Tps H xs ds → ds[i]? = some d → ∃ v, xs[i]? = some v ∧ Tp H v d
  | xs, [], i, d, _, e => by simp at e
  | _, d0 :: ds, 0, d, h, e => by
    cases h with
    | cons a b =>
      simp only [List.getElem?_cons_zero, Option.some.injEq] at e
      subst e
      exact ⟨_, rfl, a⟩
  | _, d0 :: ds, i + 1, d, h, e => by
    cases h with
    | cons a b =>
      rw [List.getElem?_cons_succ] at e
      obtain ⟨v, h1, h2⟩ := Tps.at b e
      exact ⟨v, by rw [List.getElem?_cons_succ]; exact h1, h2⟩
theorem Tps.take : ∀ {xs : List V} {ds : List PyData} (n : Nat), Tps H xs ds → Tps H (xs.take n) (ds.take n)
  | _, _, 0, _ => .nil
  | [], _, n + 1, h => by cases h; exact .nil
  | x :: xs, _, n + 1, h => by
    cases h with
    | cons a b => exact .cons a (Tps.take n b)
theorem Tps.drop : ∀ {xs : List V} {ds : List PyData} (n : Nat), Tps H xs ds → Tps H (xs.drop n) (ds.drop n)
  | _, _, 0, h => h
  | [], _, n + 1, h => by cases h; exact .nil
  | x :: xs, _, n + 1, h => by
    cases h with
    | cons a b => exact Tps.drop n b
theorem Tps.reverse : ∀ {xs : List V} {ds : List PyData}, Tps H xs ds → Tps H xs.reverse ds.reverse
  | [], _, h => by cases h; exact .nil
  | x :: xs, _, h => by
    cases h with
    | cons a b =>
      rw [List.reverse_cons, List.reverse_cons]
      exact Tps.append (Tps.reverse b) (.one a)
theorem Tps.strs : ∀ ss : List Str, Tps H (ss.map V.str) (ss.map PyData.str)
  | [] => .nil
  | s :: ss => .cons (.str s) (Tps.strs ss)
theorem Tps.ints : ∀ ss : List Int, Tps H (ss.map V.int) (ss.map PyData.int)
  | [] => .nil
  | s :: ss => .cons (.int s) (Tps.ints ss)
end
def isName (s : Str) : Prop := 1 ≤ s.length ∧ s.length ≤ 8 ∧ ∀ c ∈ s.cps.toList, 97 ≤ c ∧ c < 123
/-! ### parts -/
inductive K1 | left | right
  deriving DecidableEq
def K1.word : K1 → Str
  | .left => "left"
  | .right => "right"
inductive K2 | give | plus | less | times | below | pair
  deriving DecidableEq
def K2.word : K2 → Str
  | .give => "give"
  | .plus => "plus"
  | .less => "less"
  | .times => "times"
  | .below => "below"
  | .pair => "pair"
mutual
inductive Part
  | num (n : Int) | name (x : Str) | fn (f : Str) | one (k : K1) (a : Part) | two (k : K2) (a b : Part) | whn (a b c : Part) | letp (r : Rows) (a : Part) | shut (a : Part)
inductive Rows
  | nil | cons (x : Str) (a : Part) (r : Rows)
end
mutual
def Part.data : Part → PyData
  | .num n => .tuple [.str "number", .int n]
  | .name x => .tuple [.str "name", .str x]
  | .fn f => .tuple [.str "fun", .str f]
  | .one k a => .tuple [.str k.word, a.data]
  | .two k a b => .tuple [.str k.word, a.data, b.data]
  | .whn a b c => .tuple [.str "when", a.data, b.data, c.data]
  | .letp r a => .tuple [.str "let", .tuple r.datas, a.data]
  | .shut a => .tuple [.str "shut", a.data]
def Rows.datas : Rows → List PyData
  | .nil => []
  | .cons x a r => .tuple [.str x, a.data] :: r.datas
end
mutual
/-- how many parts -/
def Part.size : Part → Nat
  | .num _ => 1
  | .name _ => 1
  | .fn _ => 1
  | .one _ a => 1 + a.size
  | .two _ a b => 1 + (a.size + b.size)
  | .whn a b c => 1 + (a.size + (b.size + c.size))
  | .letp r a => 1 + (r.size + a.size)
  | .shut _ => 1
def Rows.size : Rows → Nat
  | .nil => 0
  | .cons _ a r => a.size + r.size
end
mutual
def Part.deep : Part → Nat
  | .num _ => 1
  | .name _ => 1
  | .fn _ => 1
  | .one _ a => 1 + a.deep
  | .two _ a b => 1 + max a.deep b.deep
  | .whn a b c => 1 + max a.deep (max b.deep c.deep)
  | .letp r a => 1 + max r.deep a.deep
  | .shut _ => 1
def Rows.deep : Rows → Nat
  | .nil => 0
  | .cons _ a r => max a.deep r.deep
end
def Rows.names : Rows → List Str
  | .nil => []
  | .cons x _ r => x :: r.names
def Rows.parts : Rows → List Part
  | .nil => []
  | .cons _ a r => a :: r.parts
def Rows.app : Rows → Rows → Rows
  | .nil, s => s
  | .cons x a r, s => .cons x a (r.app s)
def Part.kids : Part → List Part
  | .num _ => []
  | .name _ => []
  | .fn _ => []
  | .one _ a => [a]
  | .two _ a b => [a, b]
  | .whn a b c => [a, b, c]
  | .letp r a => r.parts ++ [a]
  | .shut _ => []
mutual
/-- the names of the rows of all lets, in the order of places -/
def Part.rowNames : Part → List Str
  | .num _ => []
  | .name _ => []
  | .fn _ => []
  | .one _ a => a.rowNames
  | .two _ a b => a.rowNames ++ b.rowNames
  | .whn a b c => a.rowNames ++ (b.rowNames ++ c.rowNames)
  | .letp r a => r.names ++ (r.rowNames ++ a.rowNames)
  | .shut _ => []
def Rows.rowNames : Rows → List Str
  | .nil => []
  | .cons _ a r => a.rowNames ++ r.rowNames
end
mutual
/-- a part of a program: names in scope, funs there, small numbers, one to four rows -/
def Part.ok (fs : List Str) : List Str → Part → Prop
  | sc, .num n => n.natAbs < 10 ^ 60
  | sc, .name x => x ∈ sc ∧ isName x
  | sc, .fn f => f ∈ fs ∧ isName f
  | sc, .one _ a => a.ok fs sc
  | sc, .two _ a b => a.ok fs sc ∧ b.ok fs sc
  | sc, .whn a b c => a.ok fs sc ∧ b.ok fs sc ∧ c.ok fs sc
  | sc, .letp r a => r.names.length ≤ 4 ∧ r.names ≠ [] ∧ (∀ x ∈ r.names, isName x) ∧ r.ok fs (sc ++ r.names) ∧ a.ok fs (sc ++ r.names)
  | _, .shut _ => False
def Rows.ok (fs : List Str) : List Str → Rows → Prop
  | _, .nil => True
  | sc, .cons _ a r => a.ok fs sc ∧ r.ok fs sc
end
theorem Rows.app_datas : ∀ r s : Rows, (r.app s).datas = r.datas ++ s.datas
  | .nil, s => rfl
  | .cons x a r, s => by
    show _ :: (r.app s).datas = _
    rw [Rows.app_datas r s]
    rfl
theorem Rows.app_names : ∀ r s : Rows, (r.app s).names = r.names ++ s.names
  | .nil, s => rfl
  | .cons x a r, s => by
    show _ :: (r.app s).names = _
    rw [Rows.app_names r s]
    rfl
theorem Rows.app_size : ∀ r s : Rows, (r.app s).size = r.size + s.size
  | .nil, s => by show s.size = 0 + s.size; omega
  | .cons x a r, s => by
    show _ + (r.app s).size = _ + r.size + _
    rw [Rows.app_size r s]
    omega
theorem Rows.app_deep : ∀ r s : Rows, (r.app s).deep = max r.deep s.deep
  | .nil, s => by show s.deep = max 0 s.deep; omega
  | .cons x a r, s => by
    show max _ (r.app s).deep = max (max _ r.deep) _
    rw [Rows.app_deep r s]
    omega
theorem Rows.app_rowNames : ∀ r s : Rows, (r.app s).rowNames = r.rowNames ++ s.rowNames
  | .nil, s => rfl
  | .cons x a r, s => by
    show _ ++ (r.app s).rowNames = (_ ++ r.rowNames) ++ _
    rw [Rows.app_rowNames r s, List.append_assoc]
theorem Rows.app_ok {fs : List Str} : ∀ {sc : List Str} {r s : Rows}, r.ok fs sc → s.ok fs sc → (r.app s).ok fs sc
  | sc, .nil, s, _, h => h
  | sc, .cons x a r, s, h, h2 => ⟨h.1, Rows.app_ok h.2 h2⟩

/-! ### written tables, from what the top has left -/
theorem keys_miss {P : Params} {z : Str} : ∀ {l : List DictEntry} {ks : List Str}, l.map He.keyOf = He.keysIn P ks → z ∉ ks → l.find? (·.key.isStr z) = none ∧ l.any (·.refKey) = false
  | [], _, _, _ => ⟨rfl, rfl⟩
  | e :: r, [], h, _ => by cases h
  | e :: r, k :: ks, h, hz => by
    have h1 : He.keyOf e :: r.map He.keyOf = some (k, PyData.keyHash P k) :: He.keysIn P ks := h
    injection h1 with h2 h3
    obtain ⟨i1, i2⟩ := keys_miss h3 fun m => hz (List.mem_cons_of_mem _ m)
    unfold He.keyOf at h2
    split at h2
    · rename_i x t q
      obtain ⟨h5, h6⟩ := Prod.mk.inj (Option.some.inj h2)
      have hne : ¬ x = z := fun e => hz (by rw [← e, h5]; exact List.mem_cons_self ..)
      refine ⟨?_, ?_⟩
      · rw [List.find?_cons, show e.key.isStr z = false from by rw [q, PySem.W.isStr_of]; show (x == z) = false; simp [hne]]
        exact i1
      · rw [List.any_cons, i2, Bool.or_false]
        unfold DictEntry.refKey
        rw [q]
    · cases h2
theorem ktab_of {K : PySem.W.Frag} {w : World} {a : Addr} {kvs : List (Str × He.Dv)} (h : He.dicW K a = some (He.keysIn w.params (kvs.map (·.1)))) (hv : He.valsB K a kvs = true) : KTab K w a (kvs.map fun q => (q.1, q.2.v K)) := by
  intro z
  obtain ⟨es, n, D⟩ := He.dicW_ok h
  refine ⟨es, n, D, ?_⟩
  by_cases hz : z ∈ kvs.map (·.1)
  · right
    obtain ⟨q0, hq0, rfl⟩ := List.mem_map.mp hz
    cases hf : kvs.find? (fun q => decide (q.1 = q0.1)) with
    | none =>
      have := List.find?_eq_none.mp hf q0 hq0
      simp at this
    | some q =>
      have hq := List.mem_of_find?_eq_some hf
      have hqe := List.find?_some hf
      have hqe := of_decide_eq_true hqe
      obtain ⟨u, h1, h2⟩ := He.valsB_ok hv hq
      refine ⟨u, q.2.v K, ?_, by rw [← hqe]; exact h1, h2⟩
      rw [List.find?_map]
      show Option.map _ (Option.map _ (kvs.find? fun q => decide (q.1 = q0.1))) = _
      rw [hf]
      rfl
  · left
    have hl : es.toList.map He.keyOf = He.keysIn w.params (kvs.map (·.1)) := by
      unfold He.dicW at h
      rw [D.at_] at h
      dsimp only at h
      split at h
      · exact Option.some.inj h
      · cases h
    obtain ⟨i1, i2⟩ := keys_miss hl hz
    refine ⟨?_, ?_⟩
    · rw [List.find?_map]
      show Option.map _ (Option.map _ (kvs.find? fun q => decide (q.1 = z))) = _
      rw [show kvs.find? (fun q => decide (q.1 = z)) = none from List.find?_eq_none.mpr fun q hq e => hz (by rw [← of_decide_eq_true e]; exact List.mem_map.mpr ⟨q, hq, rfl⟩)]
      rfl
    · unfold PySem.W.nsIn
      rw [D.at_]
      dsimp only
      rw [i1]
      dsimp only
      rw [i2]
      rfl
theorem tab_at {fa : List He.Fa} {fn : List He.DefD} {ts : List He.Tab} {w : World} {K : PySem.W.Frag} (c : He.SaysT fa fn ts w K) (i : Nat) {t : He.Tab} (h : ts[i]? = some t) : He.dicW K (t.1 K) = some (He.keysIn w.params t.2) := by
  have e : ts.map (fun t => He.dicW K (t.1 K)) = ts.map fun t => some (He.keysIn w.params t.2) := congrArg (fun z : He.AlT => z.2) c
  have e2 : (ts.map fun t => He.dicW K (t.1 K))[i]? = (ts.map fun t => some (He.keysIn w.params t.2))[i]? := by rw [e]
  rw [List.getElem?_map, List.getElem?_map, h] at e2
  exact Option.some.inj e2

/-! ### more methods of lists -/
section
variable {X : Cx}
def rClearG : V → List V → Hp → VK → Prop := fun x vs H Q => ∃ l xs, x = .ref l ∧ vs = [] ∧ H l = some (.lst xs) ∧ Put H l (.lst []) fun H' => Q .non H'
theorem mt_clearG : MtR X "list.clear" rClearG := mtr_imp (r := rClear) mt_clear fun x xs H Q ⟨l, ys, e1, e2, h, q⟩ => ⟨l, ys, e1, e2, h, q.at⟩
/-! dicts: a copy, a clearing -/
def rDClearG : V → List V → Hp → VK → Prop := fun x vs H Q => ∃ (a : Addr) (kvs : List (Key × V)), x = .ref a ∧ vs = [] ∧ H a = some (.dK kvs) ∧ Put H a (.dK []) fun H' => Q .non H'
theorem mt_dclearG : MtR X "dict.clear" rDClearG := by
  intro pins s σ H x vs v us Q I rx rv h
  obtain ⟨a, kvs, ex, ev, e, q⟩ := h
  subst ex
  subst ev
  obtain rfl : v = Value.ref a := rx
  have hus := rv.zero
  subst hus
  exact d_clear I e fun s' I' => ⟨.non, _, I', rfl, q.at⟩
def rDictG : List V → Hp → VK → Prop := fun xs H Q => ∃ (a : Addr) (kvs : List (Key × V)), xs = [.ref a] ∧ H a = some (.dK kvs) ∧ New H (.dK kvs) fun p H' => Q (.ref p) H'
/-- a list so many times -/
def rRepG : R2 := fun x y H Q => ∃ l k xs, x = .ref l ∧ y = .int k ∧ H l = some (.lst xs) ∧ -(2 ^ 63) ≤ k ∧ k < 2 ^ 63 ∧ xs.length * k.toNat ≤ sizeLine ∧ New H (.lst (List.replicate k.toNat xs).flatten) fun p H' => Q (.ref p) H'
theorem op_repG : OpR X (binaryOp .Mult) rRepG := opr_imp op_rep fun x y H Q ⟨l, k, xs, e1, e2, h, h1, h2, h3, n⟩ => ⟨l, k, xs, e1, e2, h, h1, h2, h3, n.at⟩
/-- a statement that is never come to -/
def tNever : TS := fun _ _ _ => False
theorem ps_never {st : Stmt} : PS X st tNever := ⟨fun _ _ _ _ _ _ h => h.elim⟩
/-- dict(l) of a list of pairs -/
def rDictP (K : PySem.W.Frag) : List V → Hp → VK → Prop := fun xs H Q => ∃ (a : Addr) (ps : List Addr) (kvs : List (Key × V)), xs = [.ref a] ∧ SqL K H a (ps.map V.ref) ∧ Paired (fun p kv => SqT K H p [kV kv.1, kv.2]) ps kvs ∧ New H (.dK (mergeK [] kvs)) fun p H' => Q (.ref p) H'
theorem call_dictPG (hc : X.calm = true) : CallR X (.type "dict") (rDictP X.K) := callr_imp (call_dictP hc) fun xs H Q ⟨a, ps, kvs, e, h, hp, n⟩ => ⟨a, ps, kvs, e, h, hp, n.at⟩
theorem call_dictG : CallR X (.type "dict") rDictG := callr_imp call_dictD fun xs H Q ⟨a, kvs, e, h, n⟩ => ⟨a, kvs, e, .of h, n.at⟩
end
section
variable {K : PySem.W.Frag} {w : World} {H : Hp} {Q : VK} {a : Addr} {xs : List V} {ss : List Str} {k : Str} {j : Nat} {R : It → Hp → Prop} {σ : L2.St} {ta : TA}
theorem g_clear (h : H a = some (.lst xs)) (q : Put H a (.lst []) fun H' => Q .non H') : rClearG (.ref a) [] H Q := ⟨a, xs, rfl, rfl, h, q⟩
/-- the place of a text among unlike ones -/
theorem g_indexS (h : SqL K H a (ss.map V.str)) (nd : ss.Nodup) (e : ss[j]? = some k) (q : Q (.int (j : Nat)) H) : rIndex K (.ref a) [.str k] H Q := by
  refine ⟨a, ss.map V.str, .str k, j, .str k, rfl, rfl, h, rfl, flat_strs ss, by rw [List.getElem?_map, e]; rfl, by simp [eqV], fun m z' hm hz => ?_, q⟩
  rw [List.getElem?_map] at hz
  obtain ⟨s, hs, rfl⟩ := Option.map_eq_some_iff.mp hz
  show (s == k) = false
  have hne : s ≠ k := by
    rintro rfl
    obtain ⟨h1, h2⟩ := List.getElem?_eq_some_iff.mp hs
    obtain ⟨h3, h4⟩ := List.getElem?_eq_some_iff.mp e
    have := (List.pairwise_iff_getElem.mp nd) m j h1 h3 hm
    exact this (h2.trans h4.symm)
  simpa using hne
theorem g_enum (h : ta σ H fun vs H1 => ∃ a xs, vs = [.ref a] ∧ SqL K H1 a xs ∧ R (Ite K a) H1) : iEnum K ta σ H R := h
end

/-! ### what is known of a heap, from the heaps ahead -/
section
variable {H H1 H' : Hp} {a b d p : Addr} {o : HO} {xs ys : List V}
theorem Same.to (s : Same H H') (h : H b = some o) : H' b = some o := s b o h
theorem Chg.to (c : Chg a H H') (h : H b = some o) (n : b ≠ a) : H' b = some o := c b o n h
theorem Tk.to (k : Tk H H') (h : H b = some (.tup xs)) : H' b = some (.tup xs) := k b xs h
/-- nothing is at p (a word of its own, so that it is found by its heap) -/
def Fr (H : Hp) (p : Addr) : Prop := H p = none
theorem ne_fr (h : H b = some o) (h' : Fr H a) : b ≠ a := ne_of_none h h'
theorem New.mk {R : Addr → Hp → Prop} (h : ∀ p H', Fr H p → H' p = some o → Same H H' → R p H') : New H o R := h
theorem Put.mk {R : Hp → Prop} (h : ∀ H', H' a = some o → Chg a H H' → R H') : Put H a o R := h
theorem Chg.free (c : Chg a H H') (n : b ≠ a) (h : H' b = none) : H b = none := by
  cases e : H b with
  | none => rfl
  | some o => rw [c b o n e] at h; cases h
theorem Chg.fresh (i : Chg p H H1) (hd : H d = none) (c : Chg d H1 H') : Chg p H H' := fun b o hb e => c b o (ne_of_none e hd) (i b o hb e)
theorem Tk.same (i : Tk H H1) (s : Same H1 H') : Tk H H' := i.trans (Same.tk s)
theorem Tk.lst (i : Tk H H1) (c : Chg a H1 H') (h : H1 a = some (.lst ys)) : Tk H H' := i.trans (c.tkl h)
theorem Tk.dct {kvs : List (Key × V)} (i : Tk H H1) (c : Chg a H1 H') (h : H1 a = some (.dK kvs)) : Tk H H' := i.trans (c.tk fun xs e => by rw [h] at e; cases e)
theorem Same.more (i : Same H H1) (s : Same H1 H') : Same H H' := i.trans s
theorem Same.more2 (i : Same H H1) (c : Chg d H1 H') (h : H d = none) : Same H H' := Same.chg i h c
theorem Tp.to {v : V} {e : PyData} (h : Tp H v e) (k : Tk H H') : Tp H' v e := h.mono k
theorem Tps.to {vs : List V} {es : List PyData} (h : Tps H vs es) (k : Tk H H') : Tps H' vs es := h.mono k
end
section
variable {K : PySem.W.Frag} {w : World} {H : Hp} {v x y z : V} {i j k : Nat} {p a b : Addr} {xs ys : List V} {Q : VK} {σ : L2.St}
theorem g_ixTa {i : Int} (h : H p = some (.tup xs)) (e : xs[i.toNat]? = some v) (h0 : 0 ≤ i) (q : Q v H) : rIxG K w (.ref p) (.int i) H Q := g_ixT (.of h) (atI_of h0 e) q
theorem g_ixLa {i : Int} (h : H p = some (.lst xs)) (e : xs[i.toNat]? = some v) (h0 : 0 ≤ i) (q : Q v H) : rIxG K w (.ref p) (.int i) H Q := g_ixL (.of h) (atI_of h0 e) q
theorem g_isLa {R : Addr → Prop} (h : H p = some (.lst xs)) (q : R p) : ∃ a, V.ref p = .ref a ∧ (∃ xs, SqL K H a xs) ∧ R a := g_isL (.of h) q
theorem g_isTa {R : Addr → Prop} (h : H p = some (.tup xs)) (q : R p) : ∃ a, V.ref p = .ref a ∧ (∃ xs, SqT K H a xs) ∧ R a := g_isT (.of h) q
theorem g_inX {k : Str} {r : Bool} (h : H p = some (.tup xs)) (f : xs.all flatV = true) (e : inV (.str k) xs = r) (q : Q (.bl r) H) : rInG K w false (.str k) (.ref p) H Q := .inl ⟨p, xs, rfl, .inr (.of h), rfl, f, by rw [e]; exact q⟩
theorem g_notInX {k : Str} {r : Bool} (h : H p = some (.tup xs)) (f : xs.all flatV = true) (e : inV (.str k) xs = r) (q : Q (.bl (!r)) H) : rInG K w true (.str k) (.ref p) H Q := .inl ⟨p, xs, rfl, .inr (.of h), rfl, f, by rw [e]; exact q⟩
theorem g_lstTx {R : Addr → Hp → Prop} (h : H p = some (.tup xs)) (q : R p H) : ∃ a, V.ref p = .ref a ∧ R a H := ⟨p, rfl, q⟩
end
/-! comprehensions that make of each item one thing, where no old object changes -/
theorem Tps.of_get {H : Hp} : ∀ {us : List V} {ds : List PyData}, us.length = ds.length → (∀ (i : Nat) y, us[i]? = some y → ∃ d, ds[i]? = some d ∧ Tp H y d) → Tps H us ds
  | [], [], _, _ => .nil
  | u :: us, d :: ds, hl, h => by
    refine .cons ?_ (Tps.of_get (Nat.succ.inj hl) fun i y hy => h (i + 1) y hy)
    obtain ⟨d', h1, h2⟩ := h 0 u rfl
    cases h1
    exact h2
section
variable {K : PySem.W.Frag} {H1 : Hp} {g : TG} {te : TE} {vs : List Nat} {σ : L2.St} {a : Addr} {xs : List V} {Qd : Addr → Hp → Prop} {F : Nat → V → Hp → Prop}
theorem lc_map_any {J : It} (hJ1 : ∀ i H', i < xs.length → Same H1 H' → J.go i H') (hJ2 : ∀ H', Same H1 H' → J.stop xs.length H') (hJ3 : ∀ i H' x H2, Same H1 H' → J.yld i H' x H2 → H2 = H' ∧ xs[i]? = some x)
    (hl : xs.length ≤ 100000) (F : Nat → V → Hp → Prop) (hF : ∀ i y H H', Tk H H' → F i y H → F i y H')
    (hs : ∀ (i : Nat) x H' (Nx : V → Hp → Prop), xs[i]? = some x → Same H1 H' → (∀ y H4, Same H' H4 → F i y H4 → Nx y H4) → g x (wipe σ vs) H' fun σ2 H2 => wipe σ2 vs = wipe σ vs ∧ te σ2 H2 Nx)
    (hd : ∀ D (ys : List V) H', Fr H1 D → H' D = some (.lst ys) → ys.length = xs.length → (∀ (i : Nat) y, ys[i]? = some y → F i y H') → Same H1 H' → Qd D H') : LcR J g tYes te vs σ H1 Qd := by
  intro D hD
  refine lc_any xs.length (fun i acc H' => acc.length = i ∧ (∀ (j : Nat) y, acc[j]? = some y → F j y H') ∧ Same H1 H') hD (fun H' _ s => ⟨rfl, by simp, s⟩) (fun i acc H' hi ⟨_, _, s⟩ => hJ1 i H' hi s) (fun acc H' ⟨_, _, s⟩ => hJ2 H' s) ?_ ?_
  · rintro i x acc H2 H' hi hla ⟨ha, hf, s2⟩ hd2 hy
    obtain ⟨rfl, hx⟩ := hJ3 i _ _ _ s2 hy
    refine hs i x _ _ hx s2 fun y H4 s4 f4 => ?_
    refine lc_step (s4 _ _ hd2) hla (by show _ < 16777216; omega) fun H5 e5 c5 => ?_
    have k5 : Tk H4 H5 := c5.tkl (s4 _ _ hd2)
    refine ⟨by rw [List.length_append, ha]; rfl, fun j z hz => ?_, Same.chg (s2.trans s4) hD c5⟩
    by_cases hj : j < acc.length
    · rw [List.getElem?_append_left hj] at hz
      exact hF _ _ _ _ ((Same.tk s4).trans k5) (hf j z hz)
    · have hj2 : j < (acc ++ [y]).length := (List.getElem?_eq_some_iff.mp hz).1
      rw [List.length_append, List.length_singleton] at hj2
      have : j = acc.length := by omega
      subst this
      rw [List.getElem?_append_right (Nat.le_refl _), Nat.sub_self] at hz
      cases hz
      rw [ha]
      exact hF _ _ _ _ k5 f4
  · rintro acc H' hd2 ⟨ha, hf, s⟩
    exact hd D acc H' hD hd2 ha hf s
theorem lc_mapT (ea : H1 a = some (.tup xs)) (hl : xs.length ≤ 100000) (F : Nat → V → Hp → Prop) (hF : ∀ i y H H', Tk H H' → F i y H → F i y H')
    (hs : ∀ (i : Nat) x H' (Nx : V → Hp → Prop), xs[i]? = some x → Same H1 H' → (∀ y H4, Same H' H4 → F i y H4 → Nx y H4) → g x (wipe σ vs) H' fun σ2 H2 => wipe σ2 vs = wipe σ vs ∧ te σ2 H2 Nx)
    (hd : ∀ D (ys : List V) H', Fr H1 D → H' D = some (.lst ys) → ys.length = xs.length → (∀ (i : Nat) y, ys[i]? = some y → F i y H') → Same H1 H' → Qd D H') : LcR (Itt K a) g tYes te vs σ H1 Qd :=
  lc_map_any (xs := xs) (fun i H' hi s => ⟨_, _, .of (s _ _ ea), List.getElem?_eq_getElem hi⟩) (fun H' s => ⟨_, .of (s _ _ ea), Nat.le_refl _⟩) (fun i H' x H2 s ⟨e, hx⟩ => ⟨e, hx _ (.of (s _ _ ea))⟩) hl F hF hs hd
theorem lc_mapL (ea : H1 a = some (.lst xs)) (hl : xs.length ≤ 100000) (F : Nat → V → Hp → Prop) (hF : ∀ i y H H', Tk H H' → F i y H → F i y H')
    (hs : ∀ (i : Nat) x H' (Nx : V → Hp → Prop), xs[i]? = some x → Same H1 H' → (∀ y H4, Same H' H4 → F i y H4 → Nx y H4) → g x (wipe σ vs) H' fun σ2 H2 => wipe σ2 vs = wipe σ vs ∧ te σ2 H2 Nx)
    (hd : ∀ D (ys : List V) H', Fr H1 D → H' D = some (.lst ys) → ys.length = xs.length → (∀ (i : Nat) y, ys[i]? = some y → F i y H') → Same H1 H' → Qd D H') : LcR (Itl K a) g tYes te vs σ H1 Qd :=
  lc_map_any (xs := xs) (fun i H' hi s => ⟨_, _, .of (s _ _ ea), List.getElem?_eq_getElem hi⟩) (fun H' s => ⟨_, .of (s _ _ ea), Nat.le_refl _⟩) (fun i H' x H2 s ⟨e, hx⟩ => ⟨e, hx _ (.of (s _ _ ea))⟩) hl F hF hs hd
end
/-! for over a tuple, over a list that stays -/
section
variable {K : PySem.W.Frag} {g : TG} {tb : TS} {D : Ends} {σ : L2.St} {H : Hp} {a : Addr} {xs : List V}
theorem for_T (Pv : Nat → L2.St → Hp → Prop) (ha : ∀ i σ H', Pv i σ H' → H' a = some (.tup xs)) (h0 : Pv 0 σ H)
    (hs : ∀ (i : Nat) x σ H', xs[i]? = some x → Pv i σ H' → g x σ H' fun σ2 H2 => tb { D with nx := Pv (i + 1), ct := Pv (i + 1), bk := D.nx } σ2 H2) (hd : ∀ σ H', Pv xs.length σ H' → D.nx σ H') : ForW (Itt K a) g tb D σ H :=
  for_any xs.length Pv h0 (fun i σ H' hi p => ⟨_, _, .of (ha _ _ _ p), List.getElem?_eq_getElem hi⟩) (fun σ H' p => ⟨_, .of (ha _ _ _ p), Nat.le_refl _⟩)
    (fun i x σ H1 H2 hi p ⟨e, hx⟩ => by subst e; exact hs i x σ _ (hx _ (.of (ha _ _ _ p))) p) hd
theorem for_L (Pv : Nat → L2.St → Hp → Prop) (ha : ∀ i σ H', Pv i σ H' → H' a = some (.lst xs)) (h0 : Pv 0 σ H)
    (hs : ∀ (i : Nat) x σ H', xs[i]? = some x → Pv i σ H' → g x σ H' fun σ2 H2 => tb { D with nx := Pv (i + 1), ct := Pv (i + 1), bk := D.nx } σ2 H2) (hd : ∀ σ H', Pv xs.length σ H' → D.nx σ H') : ForW (Itl K a) g tb D σ H :=
  for_any xs.length Pv h0 (fun i σ H' hi p => ⟨_, _, .of (ha _ _ _ p), List.getElem?_eq_getElem hi⟩) (fun σ H' p => ⟨_, .of (ha _ _ _ p), Nat.le_refl _⟩)
    (fun i x σ H1 H2 hi p ⟨e, hx⟩ => by subst e; exact hs i x σ _ (hx _ (.of (ha _ _ _ p))) p) hd
end
section
variable {K : PySem.W.Frag} {w : World} {H H' : Hp} {Q : VK} {a b : Addr} {xs ys : List V} {kvs : List (Key × V)}
theorem g_dict (h : H a = some (.dK kvs)) (q : New H (.dK kvs) fun p H' => Q (.ref p) H') : rDictG [.ref a] H Q := ⟨a, kvs, rfl, h, q⟩
theorem g_addTn (h1 : H a = some (.tup xs)) (h2 : H b = some (.tup ys)) (hl : xs.length + ys.length ≤ sizeLine) (ny : ys ≠ []) (q : ∀ c H', H' c = some (.tup (xs ++ ys)) → Same H H' → Q (.ref c) H') : rAddG K (.ref a) (.ref b) H Q := by
  refine .inr (.inr (.inr ⟨a, b, xs, ys, rfl, rfl, .of h1, .of h2, hl, fun e => ?_, fun _ e => absurd e ny, fun _ _ p H' _ e s => q p H' e s⟩))
  subst e
  exact q b H h2 (.refl _)
/-- a list and an empty one -/
theorem g_neNil (h : H a = some (.lst xs)) (h2 : H b = some (.lst [])) (q : Q (.bl (!xs.isEmpty)) H) : rNeG K (.ref a) (.ref b) H Q := by
  cases xs with
  | nil => exact .inr (.inr (.inr (.inl ⟨1, by decide, .inl ⟨a, b, [], [], rfl, rfl, .of h, .of h2, .nil⟩, q⟩)))
  | cons x xs => exact .inr (.inr (.inr (.inr ⟨a, b, _, _, rfl, rfl, .of h, .of h2, by simp, q⟩)))
theorem g_eqNil (h : H a = some (.lst xs)) (h2 : H b = some (.lst [])) (q : Q (.bl xs.isEmpty) H) : rEqG K (.ref a) (.ref b) H Q := by
  cases xs with
  | nil => exact .inr (.inr (.inr (.inl ⟨1, by decide, .inl ⟨a, b, [], [], rfl, rfl, .of h, .of h2, .nil⟩, q⟩)))
  | cons x xs => exact .inr (.inr (.inr (.inr ⟨a, b, _, _, rfl, rfl, .of h, .of h2, by simp, q⟩)))
def GTup (K : PySem.W.Frag) (a : Addr) (xs : List V) : Prop := ∀ H : Hp, SqT K H a xs
theorem g_inGT {k : Str} {r : Bool} (h : GTup K a xs) (f : xs.all flatV = true) (e : inV (.str k) xs = r) (q : Q (.bl r) H) : rInG K w false (.str k) (.ref a) H Q := .inl ⟨a, xs, rfl, .inr (h H), rfl, f, by rw [e]; exact q⟩
theorem g_neBig {x y : V} {n : Nat} (h : LkR K H (Lk K H n) x y) (hn : n ≤ 1000) (q : Q (.bl false) H) : rNeB K x y H Q := .inr ⟨n, hn, h, q⟩
theorem g_eqBig {x y : V} {n : Nat} (h : LkR K H (Lk K H n) x y) (hn : n ≤ 1000) (q : Q (.bl true) H) : rEqB K x y H Q := .inr ⟨n, hn, h, q⟩
theorem g_neBI {i j : Int} (q : Q (.bl (!decide (i = j))) H) : rNeB K (.int i) (.int j) H Q := .inl (g_neI q)
theorem g_neBS {i j : Str} (q : Q (.bl (!decide (i = j))) H) : rNeB K (.str i) (.str j) H Q := .inl (g_neS q)
theorem g_eqBI {i j : Int} (q : Q (.bl (decide (i = j))) H) : rEqB K (.int i) (.int j) H Q := .inl (g_eqI q)
theorem g_eqBS {i j : Str} (q : Q (.bl (decide (i = j))) H) : rEqB K (.str i) (.str j) H Q := .inl (g_eqS q)
theorem g_neBl {b : Bool} (q : Q (.bl false) H) : rNeG K (.bl b) (.bl b) H Q := g_neD (.bl _) (.bl _) rfl rfl (by rw [PySem.SeqAt.eqv_refl _ (SeqAt.canLay_of_shaped (d := .bool b) rfl)]; exact q)
theorem g_neB {x y : V} (h : rNeG K x y H Q) : rNeB K x y H Q := .inl h
theorem g_eqB {x y : V} (h : rEqG K x y H Q) : rEqB K x y H Q := .inl h
theorem ne_lt (h : H a = some (.lst xs)) (h' : H b = some (.tup ys)) : a ≠ b := by rintro rfl; rw [h] at h'; cases h'
theorem ne_ld (h : H a = some (.lst xs)) (h' : H b = some (.dK kvs)) : a ≠ b := by rintro rfl; rw [h] at h'; cases h'
theorem ne_td (h : H a = some (.tup xs)) (h' : H b = some (.dK kvs)) : a ≠ b := by rintro rfl; rw [h] at h'; cases h'
end
theorem valV_mem {kvs : List (Key × V)} : (kvs.map (·.1)).Nodup → ∀ p ∈ kvs, valV kvs p.1 = some p.2 := by
  induction kvs with
  | nil => intro _ p hp; cases hp
  | cons q r ih =>
    intro hn p hp
    rw [List.map_cons, List.nodup_cons] at hn
    rcases List.mem_cons.mp hp with rfl | hp
    · exact valV_pos rfl
    · have hne : ¬ q.1 = p.1 := fun e => hn.1 (by rw [e]; exact List.mem_map_of_mem hp)
      rw [valV_neg hne]
      exact ih hn.2 p hp
theorem nd_putAny {kvs : List (Key × V)} {k : Key} {v : V} (hn : (kvs.map (·.1)).Nodup) : ((putK kvs k v).map (·.1)).Nodup := by
  cases e : valV kvs k with
  | none =>
    rw [putK_new v e, List.map_append]
    refine List.nodup_append.mpr ⟨hn, by simp, fun x hx y hy exy => ?_⟩
    simp only [List.map_cons, List.map_nil, List.mem_singleton] at hy
    subst hy
    subst exy
    obtain ⟨p, hp, rfl⟩ := List.mem_map.mp hx
    rw [valV_mem hn p hp] at e
    cases e
  | some u =>
    unfold putK
    rw [valV_any, e]
    show ((kvs.map fun kv => if kv.1 = k then (kv.1, v) else kv).map (·.1)).Nodup
    rw [List.map_map]
    have : (kvs.map ((·.1) ∘ fun kv => if kv.1 = k then (kv.1, v) else kv)) = kvs.map (·.1) := by
      refine List.map_congr_left fun kv _ => ?_
      show (if kv.1 = k then (kv.1, v) else kv).1 = kv.1
      split <;> rfl
    rw [this]
    exact hn
/-- of a comprehension's items just one passes its test -/
theorem lc_one {K : PySem.W.Frag} {H1 : Hp} {g : TG} {tt : TT} {te : TE} {vs : List Nat} {σ : L2.St} {a : Addr} {xs : List V} {Qd : Addr → Hp → Prop} (ea : H1 a = some (.tup xs)) (hl : xs.length ≤ 100000) (j : Nat) (hj : j < xs.length) (F : V → Hp → Prop) (hF : ∀ y H H', Tk H H' → F y H → F y H')
    (hs : ∀ (i : Nat) x H' (Na : V → Hp → Prop) (Nb : Hp → Prop), xs[i]? = some x → Same H1 H' → (∀ y H4, i = j → Same H' H4 → F y H4 → Na y H4) → (∀ H4, i ≠ j → Same H' H4 → Nb H4) →
      g x (wipe σ vs) H' fun σ2 H2 => wipe σ2 vs = wipe σ vs ∧ tt σ2 H2 fun b H3 => if b = true then te σ2 H3 Na else Nb H3)
    (hd : ∀ D y H', Fr H1 D → H' D = some (.lst [y]) → F y H' → Same H1 H' → Qd D H') : LcR (Itt K a) g tt te vs σ H1 Qd := by
  intro D hD
  refine lc_any xs.length (fun i acc H' => (i ≤ j → acc = []) ∧ (j < i → ∃ y, acc = [y] ∧ F y H') ∧ Same H1 H') hD (fun H' _ s => ⟨fun _ => rfl, fun h => absurd h (by omega), s⟩)
    (fun i acc H' hi ⟨_, _, s⟩ => ⟨_, _, .of (s _ _ ea), List.getElem?_eq_getElem hi⟩) (fun acc H' ⟨_, _, s⟩ => ⟨_, .of (s _ _ ea), Nat.le_refl _⟩) ?_ ?_
  · rintro i x acc H' _ hi hla ⟨h1, h2, s2⟩ hd2 ⟨rfl, hx⟩
    refine hs i x _ _ _ (hx _ (.of (s2 _ _ ea))) s2 (fun y H4 e s4 f4 => ?_) fun H4 ne s4 => ?_
    · subst e
      have := h1 (Nat.le_refl _)
      subst this
      refine lc_step (s4 _ _ hd2) hla (by show _ < 16777216; omega) fun H5 e5 c5 => ?_
      exact ⟨fun h => absurd h (by omega), fun _ => ⟨y, rfl, hF _ _ _ (c5.tkl (s4 _ _ hd2)) f4⟩, Same.chg (s2.trans s4) hD c5⟩
    · exact ⟨acc, s4 _ _ hd2, by omega, fun h => h1 (by omega), fun h => (h2 (by omega)).imp fun y ⟨e, f⟩ => ⟨e, hF _ _ _ (Same.tk s4) f⟩, s2.trans s4⟩
  · rintro acc H' hd2 ⟨_, h2, s⟩
    obtain ⟨y, rfl, f⟩ := h2 hj
    exact hd D y H' hD hd2 f s


/-! Classes of the text: methods called, objects made, attributes read and set. -/
open PySem L2 PyProof.Rows PySem.Spec
/-- a method that may be called on objects of its class (no exception leaves it) -/
structure MCal (P : Program) (w : World) (K : PySem.W.Frag) (mg : Str → Option Value) (base : Heap) (k : Nat) (C : Addr) (m : Str) (sp : Sp) : Prop where
  ex : ∃ (f : Addr) (fd : FuncData) (ps : List Str), FnOk P w K mg base CX0 k f fd ps sp ∧ Meth K C m f ∧ Cls K C ∧ Binds K fd ps []
/-- a class whose objects may be made -/
structure KCal (P : Program) (w : World) (K : PySem.W.Frag) (mg : Str → Option Value) (base : Heap) (k : Nat) (x : Str) (C : Addr) (sp : Sp) : Prop where
  ex : ∃ (j : Nat) (f : Addr) (fd : FuncData) (ps : List Str), j + 1 ≤ k ∧ FnOk P w K mg base CX0 j f fd ps sp ∧ Mk K C f ∧ mg x = some (.ref C) ∧ Binds K fd ps []
section
variable {P : Program} {w : World} {K : PySem.W.Frag} {mg : Str → Option Value} {base : Heap}
theorem MCal.mono {j k : Nat} {C : Addr} {m : Str} {sp : Sp} (c : MCal P w K mg base j C m sp) (h : j ≤ k) : MCal P w K mg base k C m sp := by
  obtain ⟨f, fd, ps, F, a, b, d⟩ := c.ex
  exact ⟨f, fd, ps, F.mono h, a, b, d⟩
theorem KCal.mono {j k : Nat} {x : Str} {C : Addr} {sp : Sp} (c : KCal P w K mg base j x C sp) (h : j ≤ k) : KCal P w K mg base k x C sp := by
  obtain ⟨i, f, fd, ps, hi, F, a, b, d⟩ := c.ex
  exact ⟨i, f, fd, ps, Nat.le_trans hi h, F, a, b, d⟩
theorem mcal_mk {m q : Str} {C : Addr} {params : Arguments} {body : List Stmt} {scope : Scope} {f : Addr} {fd : FuncData} {N ps : List Str} {k : Nat} {sp : Sp} (F : FunD K m q params body scope [] [] f fd) (hm : Meth K C m f) (hc : Cls K C) (S : FnScope N ps scope)
    (b : Binds K fd ps []) (len : ∀ vs H Q E, sp vs H Q E → vs.length = ps.length)
    (hbody : ∀ (cdv : Value) (A : Around) (outer : List Env) (s : Shared) (H : Hp) (vs : List V) (Q : VK) (E : XK), Room k (A.deeper (envOfC q scope s.heap.objs.size f cdv)) → sp vs H Q E →
      ∃ t, PSs (cxOf CX0 P w K mg base N q scope f cdv A outer s H E) body t ∧ t { nx := fun _ H' => Q .non H', rt := Q } (start N vs) H) : MCal P w K mg base (k + 1) C m sp :=
  ⟨f, fd, ps, F.ok S len hbody, hm, hc, b⟩
theorem kcal_mk {x q : Str} {C : Addr} {params : Arguments} {body : List Stmt} {scope : Scope} {f : Addr} {fd : FuncData} {N ps : List Str} {k : Nat} {sp : Sp} (F : FunD K "__init__" q params body scope [] [] f fd) (hm : Mk K C f) (hg : mg x = some (.ref C)) (S : FnScope N ps scope)
    (b : Binds K fd ps []) (len : ∀ vs H Q E, sp vs H Q E → vs.length = ps.length)
    (hbody : ∀ (cdv : Value) (A : Around) (outer : List Env) (s : Shared) (H : Hp) (vs : List V) (Q : VK) (E : XK), Room k (A.deeper (envOfC q scope s.heap.objs.size f cdv)) → sp vs H Q E →
      ∃ t, PSs (cxOf CX0 P w K mg base N q scope f cdv A outer s H E) body t ∧ t { nx := fun _ H' => Q .non H', rt := Q } (start N vs) H) : KCal P w K mg base (k + 2) x C sp :=
  ⟨k + 1, f, fd, ps, Nat.le_refl _, F.ok S len hbody, hm, hg, b⟩
end
section
variable {X : Cx} {k : Nat} {x m : Str} {C : Addr} {sp : Sp} {p apos pos p0 : Pos} {o e : Expr} {es : List Expr} {ta : TE} {t : TA}
theorem pe_mcal {pl : Sem Bool} (he : PE X o ta) (c : MCal X.prog X.w X.K X.mg X.base k C m sp) (hr : Room k X.A) (ha : PA X (e :: es) t)
    (hst : starEach (e :: es) X.env = (false, eval e X.env) :: starEach es X.env := by rfl) (hpl : (backTo pos (starEach es X.env)).any (·.1) = false := by rfl)
    (ht : eval (.Call (.Attribute o m apos) (e :: es) [] pos) X.env = (do
      let ov ← eval o X.env
      standAt apos.atName
      let (f, first) ← holding [ov] (getMethod ov m pl)
      callWith pos f first (backTo pos (starEach (e :: es) X.env)) (backToKw pos (keywordEach [] X.env))) := by rfl) :
    PE X (.Call (.Attribute o m apos) (e :: es) [] pos) (tMeth C m sp [] E0 ta t) := by
  obtain ⟨f, fd, ps, F, hm, hc, b⟩ := c.ex
  exact pe_meth he hc hm F hr b .nil pass0 ha hst hpl ht
theorem pe_mcal0 {pl : Sem Bool} (he : PE X o ta) (c : MCal X.prog X.w X.K X.mg X.base k C m sp) (hr : Room k X.A)
    (ht : eval (.Call (.Attribute o m apos) [] [] pos) X.env = (do
      let ov ← eval o X.env
      standAt apos.atName
      let (f, first) ← holding [ov] (getMethod ov m pl)
      callWith pos f first (backTo pos (starEach [] X.env)) (backToKw pos (keywordEach [] X.env))) := by rfl) :
    PE X (.Call (.Attribute o m apos) [] [] pos) (tMeth C m sp [] E0 ta tNil) := by
  obtain ⟨f, fd, ps, F, hm, hc, b⟩ := c.ex
  exact pe_meth0 he hc hm F hr b .nil pass0 ht
theorem pe_kcal (c : KCal X.prog X.w X.K X.mg X.base k x C sp) (hr : Room k X.A) (hg : Gl X x) (ha : PA X (e :: es) t)
    (hdb : (x == ("__debug__" : Str)) = false := by decide) (he : starEach (e :: es) X.env = (false, eval e X.env) :: starEach es X.env := by rfl) (hpl : (backTo pos (starEach es X.env)).any (·.1) = false := by rfl) :
    PE X (.Call (.Name x p0) (e :: es) [] pos) (tMake C sp [] E0 t) := by
  obtain ⟨j, f, fd, ps, hj, F, hm, hC, b⟩ := c.ex
  exact pe_make hm F (hr.mono hj) hg hC b .nil pass0 ha hdb he hpl
theorem pe_kcal0 (c : KCal X.prog X.w X.K X.mg X.base k x C sp) (hr : Room k X.A) (hg : Gl X x)
    (hdb : (x == ("__debug__" : Str)) = false := by decide) : PE X (.Call (.Name x p0) [] [] pos) (tMake C sp [] E0 tNil) := by
  obtain ⟨j, f, fd, ps, hj, F, hm, hC, b⟩ := c.ex
  exact pe_make0 hm F (hr.mono hj) hg hC b .nil pass0 hdb
end
/-! int of a text too -/
def rIntA : List V → Hp → VK → Prop := fun xs H Q => rIntG xs H Q ∨ rIntS xs H Q
theorem call_intA {X : Cx} : CallR X (.type "int") rIntA := CallR.or call_int1 call_int_str
theorem g_intT {s : Str} {n : Int} {H : Hp} {Q : VK} (h : PySem.intText? s = some n) (hl : s.length ≤ 640) (q : Q (.int n) H) : rIntA [.str s] H Q := .inr ⟨s, n, rfl, h, hl, q⟩
/-! fields, methods, new objects, in steps -/
def FldR (K : PySem.W.Frag) (f : Str) (x : V) (H : Hp) (Q : VK) : Prop := ∃ a C dx fs v, x = .ref a ∧ H a = some (.ins C dx fs) ∧ Cls K C ∧ NoAttr K C f ∧ fs.lookup f = some v ∧ Q v H
def SFldR (K : PySem.W.Frag) (f : Str) (y x : V) (H : Hp) (R : Hp → Prop) : Prop := ∃ a C dx fs, x = .ref a ∧ H a = some (.ins C dx fs) ∧ Cls K C ∧ NoAttr K C f ∧ fs.length < 1000 ∧ R (upd H a (.ins C dx (putF f y fs)))
def MethR (C : Addr) (m : Str) (x : V) (H : Hp) (R : V → Hp → Prop) : Prop := ∃ a dx fs, x = .ref a ∧ H a = some (.ins C dx fs) ∧ fs.lookup m = none ∧ R x H
def MakeR (C : Addr) (H : Hp) (R : Addr → Hp → Prop) : Prop := ∀ x dx, H x = none → H dx = none → dx ≠ x → R x (upd (upd H dx (.own x)) x (.ins C dx []))
section
variable {K : PySem.W.Frag} {f m : Str} {C a dx : Addr} {fs fs' : List (Str × V)} {v y : V} {H : Hp} {Q : VK} {R : Hp → Prop} {ta tv : TE} {t : TA} {σ : L2.St} {D : Ends} {sp : Sp} {E : XK}
theorem g_fld (h : ta σ H fun x H1 => FldR K f x H1 Q) : tFld K ta f σ H Q := h
theorem g_fldr (he : H a = some (.ins C dx fs)) (hc : Cls K C) (hn : NoAttr K C f) (hv : fs.lookup f = some v) (q : Q v H) : FldR K f (.ref a) H Q := ⟨a, C, dx, fs, v, rfl, he, hc, hn, hv, q⟩
theorem g_sfld (h : tv σ H fun y H1 => ta σ H1 fun x H2 => SFldR K f y x H2 fun H3 => D.nx σ H3) : sFld K ta tv f D σ H := h
theorem g_sfldr (he : H a = some (.ins C dx fs)) (hc : Cls K C) (hn : NoAttr K C f) (hl : fs.length < 1000) (hp : putF f y fs = fs') (q : Put H a (.ins C dx fs') R) : SFldR K f y (.ref a) H R :=
  ⟨a, C, dx, fs, rfl, he, hc, hn, hl, by rw [hp]; exact q.at⟩
theorem g_meth (h : ta σ H fun x H1 => MethR C m x H1 fun x H1 => t σ H1 fun vs H2 => sp (x :: (vs ++ [])) H2 Q E) : tMeth C m sp [] E ta t σ H Q := h
theorem g_methr {R : V → Hp → Prop} (he : H a = some (.ins C dx fs)) (hn : fs.lookup m = none) (q : R (.ref a) H) : MethR C m (.ref a) H R := ⟨a, dx, fs, rfl, he, hn, q⟩
theorem g_make (h : t σ H fun vs H1 => MakeR C H1 fun x H2 => sp (.ref x :: (vs ++ [])) H2 (fun v H3 => v = .non ∧ Q (.ref x) H3) E) : tMake C sp [] E t σ H Q := h
theorem g_maker {R : Addr → Hp → Prop} (q : ∀ x dx H', Fr H x → H' x = some (.ins C dx []) → Same H H' → R x H') : MakeR C H R := fun x dx hx hd hn => by
  refine q x dx _ hx upd_same fun b o hb => ?_
  have hbx : b ≠ x := fun e => by rw [e, hx] at hb; cases hb
  have hbd : b ≠ dx := fun e => by rw [e, hd] at hb; cases hb
  rw [upd_ne hbx, upd_ne hbd]
  exact hb
end

/-! Errors of the text's own: defs that let them out, raise, a try whose clause keeps the error, isinstance of a kept one, its name. -/
open PySem L2 PyProof.Rows PySem.Spec
/-! ### a kept error -/
/-- at a: an error of the class at C, its dict (none | at d) -/
def hxc (a C : Addr) (d : Option Addr) : HO := .ext fun h => ∃ oe vs, h.get? a = some oe ∧ oe.cls = .ref C ∧ oe.dict = d ∧ oe.data = .fields vs
theorem hxc_ok {P : Program} {w : World} {H : Hp} {h : Heap} {a C : Addr} {d : Option Addr} {oe : Obj} {vs : Array Value} (e : h.get? a = some oe) (h1 : oe.cls = .ref C) (h2 : oe.dict = d) (h3 : oe.data = .fields vs) : ObjOk P w H h a (hxc a C d) :=
  ⟨⟨oe, vs, e, h1, h2, h3⟩, ⟨oe, e⟩, fun x y ⟨o, us, p1, p2, p3, p4⟩ k => ⟨o, us, k o p1, p2, p3, p4⟩⟩
section
variable {X : Cx} {σ : L2.St} {H : Hp} {s : Shared} {pins : List (Addr × Obj)}
/-- the suite's error is kept: it is tracked from here on -/
theorem adopt {a C : Addr} {d : Option Addr} {oe : Obj} {vs : Array Value} (I : Inv (X.suite a ((a, oe) :: (X.pn ++ pins))) [] σ H s) (ok : X.Ok) (new : X.s_0.heap.get? a = none) (apart : ∀ p ∈ X.pn ++ pins, p.1 ≠ a) (h1 : oe.cls = .ref C) (h2 : oe.dict = d) (h3 : oe.data = .fields vs) :
    Inv X pins σ (upd H a (hxc a C d)) s := by
  obtain ⟨ea, na, nL, nF, _⟩ := I.pin (a, oe) (List.mem_append_left _ List.mem_cons_self)
  have b0 := I.base
  have u := I.unsuite ok
  have nb : ∀ b o, X.s_0.heap.get? b = some o → b ≠ a := fun b o e z => by rw [z, new] at e; cases e
  have keepH : ∀ b o, H b = some o → upd H a (hxc a C d) b = some o := fun b o e => by
    rw [upd_ne (fun z => by rw [z] at e; rw [e] at na; cases na)]
    exact e
  refine ⟨ok, u.os, u.bare, ⟨u.base.keep, u.base.slot, fun b o e n hx => ?_, u.base.there, fun b xs e => keepH _ _ (u.base.tups b xs e), fun b o xs e => keepH _ _ (u.base.frzs b o xs e), fun b ps e => ?_⟩, u.loc, u.cell, ?_, fun x c e => ?_, fun p hp => ?_, fun b o e => ?_, u.len⟩
  · rw [upd_ne (nb b o e)]
    exact u.base.free b o e n hx
  · obtain ⟨more, q⟩ := u.base.tbls b ps e
    exact ⟨more, keepH _ _ q⟩
  · rw [upd_ne (Ne.symm nL)]
    exact u.free
  · obtain ⟨v, o, ho, hd⟩ := u.cell x c e
    have hca : c ≠ a := fun z => by
      rw [z, ea] at ho
      cases ho
      rw [h3] at hd
      cases hd
    rw [upd_ne hca]
    exact u.freeC x c e
  · obtain ⟨p1, p2, p3, p4, p5⟩ := u.pin p hp
    exact ⟨p1, by rw [upd_ne (apart p hp)]; exact p2, p3, p4, p5⟩
  · by_cases hb : b = a
    · subst hb
      rw [upd_same] at e
      cases e
      exact hxc_ok ea h1 h2 h3
    · rw [upd_ne hb] at e
      exact (u.hok b o e).stay (fun _ _ _ q => q) (fun c q => keepH _ _ q) fun c xs q => keepH _ _ q
end
/-- what 'except x as n' wishes of an error of the body, where every one is caught and kept behind the suite -/
def wKeep (K : PySem.W.Frag) (c : Value) (i : Nat) (ts : Addr → Value → Option Addr → TS) (D : Ends) : WX := fun cls d σ H =>
  ∃ C, cls = .ref C ∧ PySem.W.exmOne K cls c = some true ∧ ∀ a, H a = none → ts a cls d { nx := fun σ' H' => D.nx (σ'.set i none) (upd H' a (hxc a C d)), rt := fun _ _ => False } (σ.set i (some (.ref a))) H
section
variable {X : Cx} {x n : Str} {c : Value} {i : Nat} {body suite : List Stmt} {b₀ : Stmt} {np pos pos' : Pos} {tb : WX → TS} {ts : Addr → Value → Option Addr → TS}
theorem ps_try_keep (hs : X.stack = X.env :: X.outer) (hf : X.env.frame = some X.env.locals) (hex : X.ex = []) (hN : X.N.Nodup) (hi : X.N[i]? = some n) (hln : X.env.kindOf n = some .local) (hc : Names X x c)
    (hb : ∀ (W : WX) (pn : List (Addr × Obj)) (xe : Value → Shared → Prop), Takes (X.tr pn xe) W → PassesOwn (model X.prog X.w) X.A X.env xe → PSs (X.tr pn xe) body (tb W))
    (hsu : ∀ (a : Addr) (oe : Obj) (cls : Value) (d : Option Addr) (pn : List (Addr × Obj)), Zc cls d oe → (∃ vs, oe.data = .fields vs) → PSs (X.suite a ((a, oe) :: pn)) (b₀ :: suite) (ts a cls d)) :
    PS X (.Try body [.ExceptHandler (some (.Name x np)) (some n) (b₀ :: suite) pos'] [] [] pos) (fun D σ H => tb (wKeep X.K c i ts D) D σ H) := by
  refine ⟨fun pins s σ H D I h => ?_⟩
  have ok := I.ok
  have hfr : X.A.frames = some (X.env :: X.outer) := by rw [ok.frames, hs]
  -- the clause's name, looked up while the error at a is handled
  have test : ∀ {a : Addr} {oe : Obj} {σ1 : L2.St} {H1 : Hp} {s1 : Shared} {Q : Value → Shared → Prop} {E : Value → Shared → Prop}, Inv (X.suite a ((a, oe) :: (X.pn ++ pins))) [] σ1 H1 s1 → Q c s1 →
      wpAny (model X.prog X.w) (X.A.mark (some (.ref a))) (eval (.Name x np) X.env) Q E s1 := fun {a oe σ1 H1 s1 Q E} S q => by
    obtain ⟨hg, hdbg, hm | ⟨hm, hv, hnn⟩⟩ := hc
    · exact ld_glob S hg hm q hdbg
    · exact ld_blt S hg hm hv q hnn hdbg
  refine wpAny_Try_except (wpAny_mono ((hb (wKeep X.K c i ts D) (X.pn ++ pins) (fun e s₁ => wpAny (model X.prog X.w) X.A (noteFrame e X.env) (fun _ s₂ => wpAny (model X.prog X.w) X.A (setFlight e none) (fun _ s₃ =>
    wpAny (model X.prog X.w) X.A (handleBy e X.env [.ExceptHandler (some (.Name x np)) (some n) (b₀ :: suite) pos']) (SP X pins D) X.xe s₃) X.xe s₂) X.xe s₁) (fun u s' xx => ?_) PassesOwn.looking).run [] s σ H D (I.toTry _) h) (fun f s1 hsp => ?_) (fun e s1 he => he))
  · obtain ⟨a, B, sI, pins', σ', H', cls, d, rfl, J', nb, up, sky, na, os, ag, C, rfl, hex1, hyes⟩ := xx
    have J : Inv X pins σ' H' sI := J'.ofTry ok
    have sky' : Sky B (X.env :: X.outer) a (Zc (.ref C) d) X.env.locals s'.heap := by rw [← hs]; exact sky
    show wpAny (model X.prog X.w) X.A (noteFrame (.ref a) X.env) _ _ _
    refine Sky.land Zc.steady hfr hf sky' fun h3 fl3 up3 => ?_
    have J3 : Inv X pins σ' H' { s' with heap := h3 } := J.landed nb fl3.1 (up.trans up3) os ag
    obtain ⟨oe3, vs3, he3, hz3, hd3⟩ := fl3.there
    have nfr : a ∉ frs (X.env :: X.outer) := fun hm => by
      obtain ⟨_, o', e', hnf⟩ := fl3.2.2.1.mem hm
      rw [he3] at e'
      cases e'
      exact hnf _ hd3
    have nL : a ≠ X.env.locals := fun z => nfr (List.mem_filterMap.mpr ⟨X.env, List.mem_cons_self, by rw [hf, z]⟩)
    have nF : a ∉ X.fs := fun hm => by
      obtain ⟨e, he, q⟩ := List.mem_filterMap.mp hm
      exact nfr (List.mem_filterMap.mpr ⟨e, List.mem_cons_of_mem _ he, q⟩)
    -- the error is none of what stood ahead
    have young : sI.heap.get? a = none := by
      cases q : sI.heap.get? a with
      | none => rfl
      | some o =>
        have z := nb a o q (by rw [hs]; exact nfr)
        rw [fl3.2.1] at z
        cases z
    have new : X.s_0.heap.get? a = none := by
      cases q : X.s_0.heap.get? a with
      | none => rfl
      | some o =>
        obtain ⟨o', z⟩ := J.base.there a o q (by rw [hex]; exact List.not_mem_nil)
        rw [young] at z
        cases z
    have apart : ∀ p ∈ X.pn ++ pins, p.1 ≠ a := fun p hp z => by
      have q := (J.pin p hp).1
      rw [z, young] at q
      cases q
    have S3 := J3.suite he3 hd3 na nL nF
    refine wpAny_handleBy_cons (codeAny_handlers_test ?_) (by intro q; cases q)
    have LT : PySem.W.Looks (model X.prog X.w) h3 (typeOf (.ref a)) (.ref C) := fun A Q E s k q => wpAny_typeOf_ref (k _ _ he3) (by rw [hz3.1]; exact q)
    have LM := PySem.W.exm_one (M := model X.prog X.w) (J3.kIn) LT hex1
    refine test S3 (LM.here (codeAny_handlers_suite_as (HandSPX.lands_againZ fl3 fun h4 fl4 up4 => ?_)))
    have J4 : Inv X pins σ' H' { s' with heap := h4 } := J.landed nb fl4.1 ((up.trans up3).trans up4) os ag
    obtain ⟨oe4, vs4, he4, hz4, hd4⟩ := fl4.there
    have S4 := J4.suite he4 hd4 na nL nF
    refine store_ok (X := X.suite a ((a, oe4) :: (X.pn ++ pins))) (v := .ref a) S4 hN hi (.inl hln) rfl (fun s5 S5 => ?_) (.inr hln)
    refine wpAny_mono ((hsu a oe4 (.ref C) d (X.pn ++ pins) hz4 ⟨_, hd4⟩).run [] s5 _ H' _ S5 (hyes a na)) (fun f s6 hsp => ?_) (fun _ _ z => False.elim z)
    cases f with
    | next =>
      obtain ⟨σ6, H6, S6, q6⟩ := hsp
      exact gone_ok (X := X.suite a ((a, oe4) :: (X.pn ++ pins))) S6 hN hi hln fun s7 S7 => ⟨_, _, adopt S7 ok new apart hz4.1 hz4.2 hd4, q6⟩
    | brk => obtain ⟨_, _, _, q6⟩ := hsp; exact False.elim q6
    | cont => obtain ⟨_, _, _, q6⟩ := hsp; exact False.elim q6
    | ret u => obtain ⟨_, _, _, _, _, q6⟩ := hsp; exact False.elim q6
  · cases f with
    | next =>
      obtain ⟨σ', H', J', q⟩ := hsp
      exact wpAny_execs_nil ⟨σ', H', J'.ofTry ok, q⟩
    | brk =>
      obtain ⟨σ', H', J', q⟩ := hsp
      exact ⟨σ', H', J'.ofTry ok, q⟩
    | cont =>
      obtain ⟨σ', H', J', q⟩ := hsp
      exact ⟨σ', H', J'.ofTry ok, q⟩
    | ret u =>
      obtain ⟨v, σ', H', J', r, q⟩ := hsp
      exact ⟨v, σ', H', J'.ofTry ok, r, q⟩
end
/-! ### classes of errors, by a look at the written part -/
def eqV (a b : Option (Option Value)) : Bool := decide (a = b)
/-- what isinstance, attributes, an except clause want of a class -/
structure ExcK (K : PySem.W.Frag) (C : Addr) : Prop where
  cl : (PySem.W.clsIn K C).isSome = true
  ga : PySem.W.findIn K (.ref C) "__getattribute__" = some (some (.builtin "BaseException.__getattribute__"))
  gg : PySem.W.findIn K (.ref C) "__getattr__" = some none
  ex : PySem.W.subIn K (.ref C) (.type "BaseException") = some true
  hd : PySem.W.hasDictIn K C = true
  cs : PySem.W.findIn K (.ref C) "__class__" = some (some (.builtin "object.__class__"))
  gt : PySem.W.specialIn K (.builtin "object.__class__") "__get__" = some (some (.builtin "getset_descriptor.__get__"))
  tk : PySem.W.takesIn K (.builtin "object.__class__") = some true
  mr : PySem.W.mroIn K C (.type "object") = some true
  ty : PySem.W.typeIn K (.ref C) = some (.type "type")
  kp : PySem.W.keepIn K (.ref C) = true
def exkB (K : PySem.W.Frag) (C : Addr) : Bool :=
  (PySem.W.clsIn K C).isSome && (eqV (PySem.W.findIn K (.ref C) "__getattribute__") (some (some (.builtin "BaseException.__getattribute__"))) && (eqV (PySem.W.findIn K (.ref C) "__getattr__") (some none) &&
  (decide (PySem.W.subIn K (.ref C) (.type "BaseException") = some true) && (PySem.W.hasDictIn K C && (eqV (PySem.W.findIn K (.ref C) "__class__") (some (some (.builtin "object.__class__"))) &&
  (eqV (PySem.W.specialIn K (.builtin "object.__class__") "__get__") (some (some (.builtin "getset_descriptor.__get__"))) && (decide (PySem.W.takesIn K (.builtin "object.__class__") = some true) &&
  (decide (PySem.W.mroIn K C (.type "object") = some true) && (decide (PySem.W.typeIn K (.ref C) = some (.type "type")) && PySem.W.keepIn K (.ref C))))))))))
theorem exkB_ok {K : PySem.W.Frag} {C : Addr} (h : exkB K C = true) : ExcK K C := by
  unfold exkB eqV at h
  simp only [Bool.and_eq_true, decide_eq_true_iff] at h
  obtain ⟨h1, h2, h3, h4, h5, h6, h7, h8, h9, h10, h11⟩ := h
  exact ⟨h1, h2, h3, h4, h5, h6, h7, h8, h9, h10, h11⟩
/-- what the making of an error with fields wants -/
def oexB (K : PySem.W.Frag) (C : Addr) : Bool := (match K.lookup C with
  | some ⟨.type "type", _, .cls cd, sl⟩ => (match cd.mro, sl.toList with
    | .ref C' :: bm, [_, _, _, _, some (.builtin n), _] => C' == C && (n == "ValueError.__new__" && (!cd.hasDel && (cd.hasDict && PySem.HandSPX.refsVE bm)))
    | _, _ => false)
  | _ => false) && (eqV (PySem.W.findIn K (.ref C) "__setattr__") (some (some (.builtin "object.__setattr__"))) && (decide (PySem.W.subIn K (.ref C) (.type "BaseException") = some true) &&
    (decide (PySem.W.typeIn K (.ref C) = some (.type "type")) && PySem.W.keepIn K (.ref C))))
theorem oexB_ok {K : PySem.W.Frag} {C : Addr} (h : oexB K C = true) : OexC K C := by
  unfold oexB eqV at h
  simp only [Bool.and_eq_true, decide_eq_true_iff] at h
  obtain ⟨q, h1, h2, h3, h4⟩ := h
  refine ⟨?_, h1, h2, h3, h4⟩
  split at q
  · rename_i dd cd sl ho
    split at q
    · rename_i C' bm k0 k1 k2 k3 n k5 hm hs
      simp only [Bool.and_eq_true, beq_iff_eq, Bool.not_eq_true'] at q
      obtain ⟨rfl, rfl, hdel, hdict, ht⟩ := q
      obtain ⟨nm, bs, mro, ns, qn, hd, sn, sub, ab, col, del⟩ := cd
      dsimp only at hm hdel hdict
      subst hm hdel hdict
      have hsl : sl = #[k0, k1, k2, k3, some (.builtin "ValueError.__new__"), k5] := by
        obtain ⟨l⟩ := sl
        simp only at hs
        rw [hs]
      subst hsl
      exact ⟨nm, qn, ns, bs, bm, sn, sub, ab, col, dd, k0, k1, k2, k3, k5, ho, ht⟩
    · cases q
  · cases q
/-! ### isinstance of a kept error, its name -/
/-- isinstance(e, c), e a kept error -/
def rIsX (K : PySem.W.Frag) : List V → Hp → VK → Prop := fun xs H Q => ∃ (a C : Addr) (d : Option Addr) (c : V) (cv : Value) (b : Bool), xs = [.ref a, c] ∧ H a = some (hxc a C d) ∧ (∀ dd, d = some dd → ∃ fs, H dd = some (.xd fs)) ∧ ExcK K C ∧
  (∀ u, RelV c u → u = cv) ∧ PySem.W.kitOne K (.ref C) cv = some b ∧ Q (.bl b) H
section
variable {X : Cx} {pins : List (Addr × Obj)} {σ : L2.St} {H : Hp} {s : Shared}
theorem hxc_inst {a C : Addr} {d : Option Addr} (I : Inv X pins σ H s) (ha : H a = some (hxc a C d)) (hd : ∀ dd, d = some dd → ∃ fs, H dd = some (.xd fs)) : ∃ oe od, PySem.W.InstAt s.heap a oe C od ∧ (d = none → od = none) ∧ ∀ dd, d = some dd → ∃ o, od = some o ∧ s.heap.get? dd = some o := by
  obtain ⟨⟨oe, vs, e1, e2, e3, e4⟩, _⟩ := I.hok a _ ha
  cases d with
  | none =>
    refine ⟨oe, none, ⟨e1, e2, by unfold PySem.W.notCls; rw [e4], by rw [e3]; trivial⟩, fun _ => rfl, ?_⟩
    intro dd e
    cases e
  | some dd =>
    obtain ⟨fs, hfs⟩ := hd dd rfl
    obtain ⟨mA, ⟨od, es, ep, ho, hr⟩, _⟩ := I.hok dd _ hfs
    refine ⟨oe, some od, ⟨e1, e2, by unfold PySem.W.notCls; rw [e4], by rw [e3]; exact ho⟩, ?_, ?_⟩
    · intro e
      cases e
    · intro d' e
      cases e
      exact ⟨od, rfl, ho⟩
theorem call_isX : CallR X (.builtin "isinstance") (rIsX X.K) := by
  intro pins s σ H xs us Q I r h
  obtain ⟨a, C, d, c, cv, b, rfl, ha, hd, T, hcv, e, q⟩ := h
  cases r with
  | cons rx rr =>
    cases rr with
    | cons rt rr =>
      cases rr
      cases rx
      have ec := hcv _ rt
      subst ec
      obtain ⟨oe, od, J, _⟩ := hxc_inst I ha hd
      exact PySem.W.kia_one (PySem.W.kitx_exc T.cl T.ga T.gg T.ex T.cs T.gt T.tk T.mr) I.kIn J e (fun z => nomatch z) fun tk => ⟨.bl b, H, I.kept (t' := tk) fun _ _ z => z, rfl, q⟩
end
/-- e.f, e a kept error whose fields stand in its dict -/
def FldX (K : PySem.W.Frag) (f : Str) (x : V) (H : Hp) (Q : VK) : Prop := ∃ (a C dd : Addr) (fs : List (Str × V)) (v : V), x = .ref a ∧ H a = some (hxc a C (some dd)) ∧ H dd = some (.xd fs) ∧ ExcK K C ∧ PySem.W.findIn K (.ref C) f = some none ∧ fs.lookup f = some v ∧ Q v H
def tFldX (K : PySem.W.Frag) (f : Str) (te : TE) : TE := fun σ H Q => te σ H fun x H1 => FldX K f x H1 Q
section
variable {X : Cx} {W : WX} {E : XK} {x m f : Str} {C : Addr} {sp : Sp} {k j : Nat} {p p2 pos pos2 : Pos} {e : Expr} {es : List Expr} {te : TE} {ta : TA}
theorem pe_fldX (he : PE X e te) (hb : attributeBase e f X.env (eval e X.env) = eval e X.env := by rfl) : PE X (.Attribute e f pos) (tFldX X.K f te) := by
  refine ⟨fun pins s σ H Q I h => ?_⟩
  refine attr_of hb (thn (he.run pins s σ H _ I h) fun u s1 hh => ?_)
  obtain ⟨y, H1, I1, rx, a, C, dd, fs, v, rfl, ha, hd, T, hno, l, q⟩ := hh
  obtain rfl : u = Value.ref a := rx
  obtain ⟨oe, od, J, _, hod⟩ := hxc_inst I1 ha fun d' e' => by cases e'; exact ⟨fs, hd⟩
  obtain ⟨o', rfl, ho'⟩ := hod dd rfl
  obtain ⟨mA, hns, hr⟩ := I1.hok dd _ hd
  obtain ⟨od2, ho, hl⟩ := lookIn_ns hns
  rw [ho'] at ho
  cases ho
  obtain ⟨u, hu, ru⟩ := RelO.some_of (v := v) (o := mA f) (by rw [← l]; exact hr f)
  exact HandSPX.exc_get I1.kIn J T.ga T.gg T.ex (PySem.W.findObj_own T.hd hno rfl (by rw [hl, hu])) (handed_of ru) ⟨v, H1, I1.tok _, ru, q⟩
/-! ### raise -/
/-- raise C('m') -/
def tRaiseO (C : Addr) (E : XK) : TS := fun _ _ H => E (.ref C) none H
theorem ps_raiseO (hc : X.calm = true) (tk : Takes X (fun cls d _ H => E cls d H)) (q : PySem.W.excIn X.K C He.veBase "ValueError.__new__" = true) (gC : X.mg x = some (.ref C)) (T : ExcK X.K C) (hg : Gl X x) (hdb : (x == ("__debug__" : Str)) = false := by decide) :
    PS X (.Raise (some (.Call (.Name x p) [.Constant (.str m) j p2] [] pos)) none pos2) (tRaiseO C E) := ps_raise hc tk (pmk_own PySem.F.excBase_ValueError q gC T.kp (raises_own T.ex T.ty) hg hdb)
/-- a class of errors with fields: its __init__ keeps sp -/
structure Xal (P : Program) (w : World) (K : PySem.W.Frag) (mg : Str → Option Value) (base : Heap) (k : Nat) (x : Str) (C : Addr) (sp : Sp) : Prop where
  ex : ∃ (i : Nat) (fI : Addr) (fd : FuncData) (ps : List Str), i + 1 ≤ k ∧ FnOk P w K mg base CX0 i fI fd ps sp ∧ PySem.W.findIn K (.ref C) "__init__" = some (some (.ref fI)) ∧ PySem.W.typeIn K (.ref fI) = some (.type "function") ∧ OexC K C ∧ mg x = some (.ref C) ∧ Binds K fd ps []
theorem Xal.mono {P : Program} {w : World} {K : PySem.W.Frag} {mg : Str → Option Value} {base : Heap} {i k : Nat} (c : Xal P w K mg base i x C sp) (h : i ≤ k) : Xal P w K mg base k x C sp := by
  obtain ⟨j, f, fd, ps, hj, r⟩ := c.ex
  exact ⟨j, f, fd, ps, Nat.le_trans hj h, r⟩
/-- raise C(e, ..) -/
def tRaiseI (C : Addr) (sp : Sp) (E : XK) (ta : TA) : TS := fun _ σ H => tMkO C sp [] ta σ H fun cls d H' => E cls d H'
theorem ps_raiseI (hc : X.calm = true) (tk : Takes X (fun cls d _ H => E cls d H)) (c : Xal X.prog X.w X.K X.mg X.base k x C sp) (hr : Room k X.A) (hg : Gl X x) (ha : PA X (e :: es) ta)
    (hdb : (x == ("__debug__" : Str)) = false := by decide) (he : starEach (e :: es) X.env = (false, eval e X.env) :: starEach es X.env := by rfl) (hpl : (backTo pos (starEach es X.env)).any (·.1) = false := by rfl) :
    PS X (.Raise (some (.Call (.Name x p) (e :: es) [] pos)) none pos2) (tRaiseI C sp E ta) := by
  obtain ⟨j, fI, fd, ps, hj, F, iC, tI, T, hm, b⟩ := c.ex
  exact ps_raise hc tk (pmk_oex T iC tI F (hr.mono hj) b .nil pass0 hg hm ha hdb he hpl)
/-! ### calls of defs that let errors out -/
structure CalX (P : Program) (w : World) (K : PySem.W.Frag) (mg : Str → Option Value) (base : Heap) (k : Nat) (x : Str) (sp : Sp) : Prop where
  ex : ∃ (f : Addr) (fd : FuncData) (ps : List Str), FnOk P w K mg base (L2.CX P w) k f fd ps sp ∧ mg x = some (.ref f) ∧ PySem.W.keepIn K (.ref f) = true ∧ Binds K fd ps []
theorem CalX.mono {P : Program} {w : World} {K : PySem.W.Frag} {mg : Str → Option Value} {base : Heap} {i k : Nat} (c : CalX P w K mg base i x sp) (h : i ≤ k) : CalX P w K mg base k x sp := by
  obtain ⟨f, fd, ps, F, a, b, d⟩ := c.ex
  exact ⟨f, fd, ps, F.mono h, a, b, d⟩
theorem calx_mk {P : Program} {w : World} {K : PySem.W.Frag} {mg : Str → Option Value} {base : Heap} {params : Arguments} {body : List Stmt} {scope : Scope} {f : Addr} {fd : FuncData} {N ps : List Str} (F : FunD K x x params body scope [] [] f fd) (hm : mg x = some (.ref f)) (S : FnScope N ps scope)
    (b : Binds K fd ps []) (len : ∀ vs H Q E, sp vs H Q E → vs.length = ps.length)
    (hbody : ∀ (cdv : Value) (A : Around) (outer : List Env) (s : Shared) (H : Hp) (vs : List V) (Q : VK) (E : XK), Room k (A.deeper (envOfC x scope s.heap.objs.size f cdv)) → sp vs H Q E →
      ∃ t, PSs (cxOf (L2.CX P w) P w K mg base N x scope f cdv A outer s H E) body t ∧ t { nx := fun _ H' => Q .non H', rt := Q } (start N vs) H) : CalX P w K mg base (k + 1) x sp :=
  ⟨f, fd, ps, F.ok S len hbody, hm, F.kp, b⟩
theorem xal_mk {P : Program} {w : World} {K : PySem.W.Frag} {mg : Str → Option Value} {base : Heap} {q : Str} {params : Arguments} {body : List Stmt} {scope : Scope} {f : Addr} {fd : FuncData} {N ps : List Str} (F : FunD K "__init__" q params body scope [] [] f fd)
    (iC : PySem.W.findIn K (.ref C) "__init__" = some (some (.ref f))) (tI : PySem.W.typeIn K (.ref f) = some (.type "function")) (T : OexC K C) (hm : mg x = some (.ref C)) (S : FnScope N ps scope)
    (b : Binds K fd ps []) (len : ∀ vs H Q E, sp vs H Q E → vs.length = ps.length)
    (hbody : ∀ (cdv : Value) (A : Around) (outer : List Env) (s : Shared) (H : Hp) (vs : List V) (Q : VK) (E : XK), Room k (A.deeper (envOfC q scope s.heap.objs.size f cdv)) → sp vs H Q E →
      ∃ t, PSs (cxOf CX0 P w K mg base N q scope f cdv A outer s H E) body t ∧ t { nx := fun _ H' => Q .non H', rt := Q } (start N vs) H) : Xal P w K mg base (k + 2) x C sp :=
  ⟨k + 1, f, fd, ps, Nat.le_refl _, F.ok S len hbody, iC, tI, T, hm, b⟩
theorem pe_calx (c : CalX X.prog X.w X.K X.mg X.base k x sp) (hr : Room k X.A) (hg : Gl X x) (tk : Takes X W) (ha : PA X (e :: es) ta)
    (hdb : (x == ("__debug__" : Str)) = false := by decide) (he : starEach (e :: es) X.env = (false, eval e X.env) :: starEach es X.env := by rfl) (hpl : (backTo pos (starEach es X.env)).any (·.1) = false := by rfl) :
    PE X (.Call (.Name x p) (e :: es) [] pos) (tCallS sp (WE W) ta) := by
  obtain ⟨f, fd, ps, F, a, b, d⟩ := c.ex
  exact pe_callS F hr hg a b d (fun σ => passAt tk σ) ha hdb he hpl
/-- a call whose errors are the def's own -/
def tCallE (sp : Sp) (E : XK) (t : TA) : TE := tCallS sp (WE fun cls d _ H => E cls d H) t
theorem pe_calE (c : CalX X.prog X.w X.K X.mg X.base k x sp) (hr : Room k X.A) (hg : Gl X x) (tk : Takes X (fun cls d _ H => E cls d H)) (ha : PA X (e :: es) ta)
    (hdb : (x == ("__debug__" : Str)) = false := by decide) (he : starEach (e :: es) X.env = (false, eval e X.env) :: starEach es X.env := by rfl) (hpl : (backTo pos (starEach es X.env)).any (·.1) = false := by rfl) :
    PE X (.Call (.Name x p) (e :: es) [] pos) (tCallE sp E ta) := pe_calx c hr hg tk ha hdb he hpl
end
/-- isinstance, of anything plain, of a kept error -/
def rIsiX (K : PySem.W.Frag) : List V → Hp → VK → Prop := fun xs H Q => rIsi K xs H Q ∨ rIsX K xs H Q
theorem call_isiX {X : Cx} : CallR X (.builtin "isinstance") (rIsiX X.K) := CallR.or call_isi call_isX
/-- a try whose clause keeps the error -/
def tTryK (K : PySem.W.Frag) (c : Value) (i : Nat) (tb : WX → TS) (ts : Addr → Value → Option Addr → TS) : TS := fun D σ H => tb (wKeep K c i ts D) D σ H
/-- as PureOk, of a def that lets errors out -/
structure PureOkX (n : Nat) (sp : Sp) (t : XK → TS) (m : Nat) : Prop where
  len : ∀ vs H Q E, sp vs H Q E → vs.length = n
  run : ∀ vs H Q E, sp vs H Q E → t E { nx := fun _ H' => Q .non H', rt := Q } (startN m vs) H
/-! ### in steps -/
section
variable {K : PySem.W.Frag} {w : World} {H : Hp} {Q : VK} {σ : L2.St} {D : Ends} {E : XK} {C : Addr} {sp : Sp} {t : TA} {te : TE} {f : Str} {W : WX} {v : V}
theorem g_calS (h : t σ H fun vs H1 => sp vs H1 Q (WE W σ)) : tCallS sp (WE W) t σ H Q := h
theorem g_calE (h : t σ H fun vs H1 => sp vs H1 Q E) : tCallE sp E t σ H Q := h
theorem g_raiseO (h : E (.ref C) none H) : tRaiseO C E D σ H := h
theorem g_fldX (h : te σ H fun x H1 => FldX K f x H1 Q) : tFldX K f te σ H Q := h
/-- an error's __init__ with one field -/
def spXInit (K : PySem.W.Frag) (C : Addr) (f : Str) : Sp := fun vs H Q _ => ∃ (a : Addr) (v : V), vs = [.ref a, v] ∧ H a = some (exo a C none) ∧ ∀ dx, H dx = none → dx ≠ a → Q .non (upd (upd H dx (exd dx [(f, v)])) a (exo a C (some dx)))
def RaiseR (C : Addr) (sp : Sp) (E : XK) (vs : List V) (H1 : Hp) : Prop := vs.length ≤ 1000 ∧ ∀ a, H1 a = none → sp (.ref a :: (vs ++ [])) (upd H1 a (exo a C none))
  (fun v H2 => v = .non ∧ ∃ (d : Addr) (fs : List (Str × V)), H2 a = some (exo a C (some d)) ∧ H2 d = some (exd d fs) ∧ H1 d = none ∧ E (.ref C) (some d) (upd (del H2 a) d (.xd fs))) (fun _ _ _ => False)
theorem g_raiseI (h : t σ H fun vs H1 => RaiseR C sp E vs H1) : tRaiseI C sp E t D σ H := h
theorem g_raise1 (q : ∀ d H', H d = none → H' d = some (.xd [(f, v)]) → Same H H' → E (.ref C) (some d) H') : RaiseR C (spXInit K C f) E [v] H := by
  refine ⟨by show 1 ≤ 1000; decide, fun a ha => ⟨a, v, rfl, upd_same, fun dx hdx hne => ⟨rfl, dx, [(f, v)], upd_same, ?_, ?_, ?_⟩⟩⟩
  · rw [upd_ne hne, upd_same]
  · rw [upd_ne hne] at hdx
    exact hdx
  · rw [upd_ne hne] at hdx
    refine q dx _ hdx upd_same fun b o e => ?_
    have hb1 : b ≠ dx := fun z => by rw [z, hdx] at e; cases e
    have hb2 : b ≠ a := fun z => by rw [z, ha] at e; cases e
    rw [upd_ne hb1, del_ne hb2, upd_ne hb2, upd_ne hb1, upd_ne hb2]
    exact e
/-- self.f = e in such an __init__ -/
theorem g_ost1 {a : Addr} {o te : TE} (T : OexC K C) (hf : PySem.W.findIn K (.ref C) f = some none) (h : te σ H fun y H1 => o σ H1 fun x H2 => x = .ref a ∧ H2 a = some (exo a C none) ∧ ∀ dx, H2 dx = none → dx ≠ a → D.nx σ (upd (upd H2 dx (exd dx [(f, y)])) a (exo a C (some dx))))
    (mo : ∀ {Q Q' : VK} {σ : L2.St} {H : Hp}, (∀ v H, Q v H → Q' v H) → o σ H Q → o σ H Q') (me : ∀ {Q Q' : VK} {σ : L2.St} {H : Hp}, (∀ v H, Q v H → Q' v H) → te σ H Q → te σ H Q') : tOst K f o te D σ H :=
  me (fun y H1 h => mo (fun x H2 ⟨e, ha, q⟩ => ⟨a, C, e, T, hf, .inl ⟨ha, q⟩⟩) h) h
end
/-! ### the classes of errors, seen at once -/
def okName : Str := "name"
/-- what the laws ask of the classes: NoProgram with its text, Twice, Hidden, Stranger with a name -/
def errC (K : PySem.W.Frag) (c : Str) : Bool := exkB K (He.ga K c) && (decide (PySem.W.exmOne K (.ref (He.ga K c)) (.ref (He.ga K "LazyError")) = some true) && (decide (PySem.W.kitOne K (.ref (He.ga K c)) (.type "ValueError") = some true) &&
  ((["NoProgram", "Twice", "Hidden", "Stranger", "More", "NoRows", "NoText", "NoRow"] : List Str).all fun t => decide (PySem.W.kitOne K (.ref (He.ga K c)) (.ref (He.ga K t)) = some (decide (c = t))))))
def errI (K : PySem.W.Frag) (c : Str) : Bool := oexB K (He.ga K c) && (eqV (PySem.W.findIn K (.ref (He.ga K c)) "__init__") (some (some (.ref (He.ma K (He.ga K c) "__init__")))) && (decide (PySem.W.typeIn K (.ref (He.ma K (He.ga K c) "__init__")) = some (.type "function")) &&
  eqV (PySem.W.findIn K (.ref (He.ga K c)) "name") (some none)))
def errB (K : PySem.W.Frag) : Bool := (errC K "NoProgram" && (errC K "Twice" && (errC K "Hidden" && errC K "Stranger"))) && (PySem.W.excIn K (He.ga K "NoProgram") He.veBase "ValueError.__new__" && (errI K "Twice" && (errI K "Hidden" && errI K "Stranger")))
def Errs (K : PySem.W.Frag) : Prop := errB K = true
section
variable {K : PySem.W.Frag} {c : Str}
structure ErrC (K : PySem.W.Frag) (c : Str) : Prop where
  x : ExcK K (He.ga K c)
  lz : PySem.W.exmOne K (.ref (He.ga K c)) (.ref (He.ga K "LazyError")) = some true
  ve : PySem.W.kitOne K (.ref (He.ga K c)) (.type "ValueError") = some true
  is : ∀ t ∈ (["NoProgram", "Twice", "Hidden", "Stranger", "More", "NoRows", "NoText", "NoRow"] : List Str), PySem.W.kitOne K (.ref (He.ga K c)) (.ref (He.ga K t)) = some (decide (c = t))
structure ErrI (K : PySem.W.Frag) (c : Str) : Prop where
  o : OexC K (He.ga K c)
  i : PySem.W.findIn K (.ref (He.ga K c)) "__init__" = some (some (.ref (He.ma K (He.ga K c) "__init__")))
  ti : PySem.W.typeIn K (.ref (He.ma K (He.ga K c) "__init__")) = some (.type "function")
  nm : PySem.W.findIn K (.ref (He.ga K c)) "name" = some none
theorem errC_ok (h : errC K c = true) : ErrC K c := by
  unfold errC at h
  rw [Bool.and_eq_true, Bool.and_eq_true, Bool.and_eq_true, decide_eq_true_iff, decide_eq_true_iff, List.all_eq_true] at h
  obtain ⟨h1, h2, h3, h4⟩ := h
  exact ⟨exkB_ok h1, h2, h3, fun t ht => of_decide_eq_true (h4 t ht)⟩
theorem errI_ok (h : errI K c = true) : ErrI K c := by
  unfold errI eqV at h
  rw [Bool.and_eq_true, Bool.and_eq_true, Bool.and_eq_true, decide_eq_true_iff, decide_eq_true_iff, decide_eq_true_iff] at h
  obtain ⟨h1, h2, h3, h4⟩ := h
  exact ⟨oexB_ok h1, h2, h3, h4⟩
structure ErrsS (K : PySem.W.Frag) : Prop where
  p : ErrC K "NoProgram"
  t : ErrC K "Twice"
  h : ErrC K "Hidden"
  s : ErrC K "Stranger"
  q : PySem.W.excIn K (He.ga K "NoProgram") He.veBase "ValueError.__new__" = true
  ti : ErrI K "Twice"
  hi : ErrI K "Hidden"
  si : ErrI K "Stranger"
theorem Errs.s (e : Errs K) : ErrsS K := by
  unfold Errs errB at e
  simp only [Bool.and_eq_true] at e
  obtain ⟨⟨a, b, c, d⟩, f, g, h, i⟩ := e
  exact ⟨errC_ok a, errC_ok b, errC_ok c, errC_ok d, f, errI_ok g, errI_ok h, errI_ok i⟩
theorem Errs.x_NoProgram (e : Errs K) : ExcK K (He.ga K "NoProgram") := e.s.p.x
theorem Errs.q_NoProgram (e : Errs K) : PySem.W.excIn K (He.ga K "NoProgram") He.veBase "ValueError.__new__" = true := e.s.q
theorem Errs.i_Twice (e : Errs K) : PySem.W.findIn K (.ref (He.ga K "Twice")) "__init__" = some (some (.ref (He.ma K (He.ga K "Twice") "__init__"))) := e.s.ti.i
theorem Errs.ti_Twice (e : Errs K) : PySem.W.typeIn K (.ref (He.ma K (He.ga K "Twice") "__init__")) = some (.type "function") := e.s.ti.ti
theorem Errs.o_Twice (e : Errs K) : OexC K (He.ga K "Twice") := e.s.ti.o
theorem Errs.i_Hidden (e : Errs K) : PySem.W.findIn K (.ref (He.ga K "Hidden")) "__init__" = some (some (.ref (He.ma K (He.ga K "Hidden") "__init__"))) := e.s.hi.i
theorem Errs.ti_Hidden (e : Errs K) : PySem.W.typeIn K (.ref (He.ma K (He.ga K "Hidden") "__init__")) = some (.type "function") := e.s.hi.ti
theorem Errs.o_Hidden (e : Errs K) : OexC K (He.ga K "Hidden") := e.s.hi.o
theorem Errs.i_Stranger (e : Errs K) : PySem.W.findIn K (.ref (He.ga K "Stranger")) "__init__" = some (some (.ref (He.ma K (He.ga K "Stranger") "__init__"))) := e.s.si.i
theorem Errs.ti_Stranger (e : Errs K) : PySem.W.typeIn K (.ref (He.ma K (He.ga K "Stranger") "__init__")) = some (.type "function") := e.s.si.ti
theorem Errs.o_Stranger (e : Errs K) : OexC K (He.ga K "Stranger") := e.s.si.o
end
/-! ### list.count of flat values -/
section
variable {X : Cx}
def rCount (K : PySem.W.Frag) : V → List V → Hp → VK → Prop := fun x xs H Q => ∃ (a : Addr) (ys : List V) (y : V), x = V.ref a ∧ xs = [y] ∧ SqL K H a ys ∧ flatV y = true ∧ ys.all flatV = true ∧ Q (.int ((ys.countP fun z => L2.eqV z y : Nat) : Int)) H
theorem countP_eqU {x : V} : ∀ {xs : List V} {us : List Value}, Vals xs us → xs.all flatV = true → us.countP (eqU x) = xs.countP fun y => L2.eqV y x
  | _, _, .nil, _ => rfl
  | y :: xs, u :: us, .cons r t, f => by
    rw [List.all_cons, Bool.and_eq_true] at f
    rw [List.countP_cons, List.countP_cons, countP_eqU t f.2, eqU_of r f.1]
theorem mt_count : MtR X "list.count" (rCount X.K) := by
  intro pins s σ H x xs v us Q I rx rxs h
  obtain ⟨a, ys, y, rfl, rfl, hs, fy, fys, q⟩ := h
  cases rx
  cases rxs with
  | cons ry rt =>
    rename_i uy ut
    cases rt
    obtain ⟨its, rv, ⟨⟨cls, dd, data, sl⟩, n, ho, hc, hdn, hd⟩, hlen⟩ := I.list hs
    simp only at hc hd
    subst hc hd
    refine call_meets PySem.F.slot_list_count ⟨_, ho, rfl⟩ PySem.F.entry_list_count (PySem.F.args_list_count_2 _ _)
      (SeqAt.list_countAt a its.toArray n dd sl uy (eqU y)) ⟨ho, fun u' hu' => mem_eqAt ry fy rv fys u' (by simpa using hu'), ?_⟩
    have ec : its.toArray.toList.countP (eqU y) = ys.countP fun z => L2.eqV z y := countP_eqU rv fys
    refine ⟨.int ((ys.countP fun z => L2.eqV z y : Nat) : Int), H, I.tok _, ⟨s.toks, ?_⟩, q⟩
    show Value.int ((its.toArray.toList.countP (eqU y) : Nat) : Int) s.toks = Value.int _ s.toks
    rw [ec]
end
section
variable {K : PySem.W.Frag} {H : Hp} {Q : VK} {D : Ends} {σ : L2.St} {a C : Addr} {xs : List V} {y : V} {d : Option Addr} {c : V} {cv : Value} {b : Bool} {i : Nat} {tb : WX → TS} {ts : Addr → Value → Option Addr → TS}
theorem g_count (h : SqL K H a xs) (fy : flatV y = true) (fx : xs.all flatV = true) (q : Q (.int ((xs.countP fun z => L2.eqV z y : Nat) : Int)) H) : rCount K (.ref a) [y] H Q := ⟨a, xs, y, rfl, rfl, h, fy, fx, q⟩
theorem g_tryK {cc : Value} (h : tb (wKeep K cc i ts D) D σ H) : tTryK K cc i tb ts D σ H := h
/-- isinstance of a kept error, as a step -/
theorem g_isX (ha : H a = some (hxc a C d)) (hd : ∀ dd, d = some dd → ∃ fs, H dd = some (.xd fs)) (x : ExcK K C) (hc : ∀ u, RelV c u → u = cv) (k : PySem.W.kitOne K (.ref C) cv = some b) (q : Q (.bl b) H) : rIsiX K [.ref a, c] H Q :=
  .inr ⟨a, C, d, c, cv, b, rfl, ha, hd, x, hc, k, q⟩
theorem g_isXR {t : Addr} (ha : H a = some (hxc a C d)) (hd : ∀ dd, d = some dd → ∃ fs, H dd = some (.xd fs)) (x : ExcK K C) (k : PySem.W.kitOne K (.ref C) (.ref t) = some b) (q : Q (.bl b) H) : rIsiX K [.ref a, .ref t] H Q :=
  g_isX ha hd x (fun u r => r) k q
theorem g_isXT {t : String} (ha : H a = some (hxc a C d)) (hd : ∀ dd, d = some dd → ∃ fs, H dd = some (.xd fs)) (x : ExcK K C) (k : PySem.W.kitOne K (.ref C) (.type t) = some b) (q : Q (.bl b) H) : rIsiX K [.ref a, .ty t] H Q :=
  g_isX ha hd x (fun u r => r) k q
end
/-! ### a call of such a def where it lets nothing out -/
def WNo : WX := fun _ _ _ _ => False
theorem takesNo {X : Cx} : Takes X WNo := fun _ _ ⟨_, _, _, _, _, _, _, _, _, _, _, _, _, _, _, _, w⟩ => w.elim
def tCallN (sp : Sp) (t : TA) : TE := tCallS sp (WE WNo) t
theorem pe_calN {X : Cx} {x : Str} {sp : Sp} {k : Nat} {p pos : Pos} {e : Expr} {es : List Expr} {ta : TA} (c : CalX X.prog X.w X.K X.mg X.base k x sp) (hr : Room k X.A) (hg : Gl X x) (ha : PA X (e :: es) ta)
    (hdb : (x == ("__debug__" : Str)) = false := by decide) (he : starEach (e :: es) X.env = (false, eval e X.env) :: starEach es X.env := by rfl) (hpl : (backTo pos (starEach es X.env)).any (·.1) = false := by rfl) :
    PE X (.Call (.Name x p) (e :: es) [] pos) (tCallN sp ta) := pe_calx c hr hg takesNo ha hdb he hpl
theorem g_calN {sp : Sp} {t : TA} {σ : L2.St} {H : Hp} {Q : VK} (h : t σ H fun vs H1 => sp vs H1 Q (WE WNo σ)) : tCallN sp t σ H Q := h

local macro_rules | `(tactic| walk_at "g1") => `(tactic| first
  | with_reducible refine g_seq ?_ | with_reducible refine g_asg ?_ | with_reducible refine g_op ?_ | with_reducible refine g_ixop ?_ | ((with_reducible refine g_ixL (xs := ?gx) (v := ?gv) (SqL.of ?gh) ?ge ?_); (case gh => assumption); (case ge => exact rfl)) | with_reducible refine g_c ?_
  | ((with_reducible refine g_var (v := ?gv) ?gh ?_); (case gh => exact rfl))
  | ((with_reducible refine g_name (σ' := ?gs) ?gh ?_); (case gh => (dsimp only [List.set]; exact rfl)))
  | with_reducible refine g_cons ?_ | with_reducible refine g_nil ?_ | with_reducible refine g_ifs ?_ | with_reducible refine g_test ?_ | with_reducible refine g_bl ?_ | with_reducible refine g_cb ?_
  | with_reducible refine g_addI ?_ | with_reducible refine g_subI ?_ | with_reducible refine g_eqI ?_ | with_reducible refine g_eqS ?_ | with_reducible refine g_neI ?_ | with_reducible refine g_neS ?_
  | with_reducible refine g_ltI ?_ | with_reducible refine g_leI ?_ | with_reducible refine g_gtI ?_ | with_reducible refine g_geI ?_
  | with_reducible refine g_ret ?_ | with_reducible refine g_next ?_ | with_reducible refine g_call ?_ | with_reducible refine g_drop ?_ | with_reducible refine g_sub ?_
  | with_reducible refine g_and ?_ | with_reducible refine g_or ?_ | with_reducible refine g_not ?_ | with_reducible refine g_tru ?_ | with_reducible refine g_trubl ?_ | with_reducible refine g_truint ?_ | with_reducible refine g_ifx ?_
  | with_reducible refine g_abs ?_ | with_reducible refine g_max2 ?_ | with_reducible refine g_min2 ?_ | with_reducible refine g_intI ?_ | with_reducible refine g_intB ?_
  | with_reducible refine g_tup ?_ | with_reducible refine g_lst ?_ | ((with_reducible refine g_len ?gl ?_); (case gl => (show _ ≤ 16777216; simp only [List.length_cons, List.length_nil]; omega))) | with_reducible refine g_dnew ?_
  | with_reducible refine g_bm ?_ | with_reducible refine g_bm0 ?_ | with_reducible refine g_m1 ?_ | with_reducible refine g_isstr ?_ | with_reducible refine g_sl ?_ | with_reducible refine g_nopart ?_ | with_reducible refine g_part ?_ | with_reducible refine g_ispart ?_
  | with_reducible refine g_un ?_ | with_reducible refine g_neg ?_ | with_reducible refine g_andT ?_ | with_reducible refine g_orT ?_ | with_reducible refine g_notT ?_ | with_reducible refine g_rev ?_ | with_reducible refine g_par ?_ | with_reducible refine g_lc ?_ | with_reducible refine g_for ?_ | with_reducible refine g_rng1 ?_ | with_reducible refine g_yes ?_ | with_reducible refine g_isS ?_ | with_reducible refine g_disp ?_ | with_reducible refine g_pcons ?_ | with_reducible refine g_pnil ?_ | with_reducible refine g_get2 ?_)
local macro_rules | `(tactic| walk_at "go") => `(tactic| repeat walk_at "g1")

/-! ### the readings of the defs -/
def t_Twice___init__ (K : PySem.W.Frag) (w : World) : TS :=
  (tOst K "name" (tVar 0) (tVar 1))
def t_Hidden___init__ (K : PySem.W.Frag) (w : World) : TS :=
  (tOst K "name" (tVar 0) (tVar 1))
def t_Stranger___init__ (K : PySem.W.Frag) (w : World) : TS :=
  (tOst K "name" (tVar 0) (tVar 1))
def t_is_name (K : PySem.W.Frag) (w : World) : TS :=
  (tSeq (tIfS (tOr (tNot (tTru K (tCB (rIsiG K) (tCons (tVar 0) (tCons (tC (.ty "str")) tNil))))) (tNot (tTest (tChain rLeG rLeG (tC (.int 1)) (tCB (rLenG K) (tCons (tVar 0) tNil)) (tC (.int 8)))))) (tRet (tC (.bl false))) tNext)
  (tRet (tCB (rAll K) (tCons (tLc (iSeq K (tVar 0)) (gName 1) tYes (tOp (rInG K w false) (tVar 1) (tC (.str "abcdefghijklmnopqrstuvwxyz"))) [1]) tNil))))
def t_is_whole (K : PySem.W.Frag) (w : World) : TS :=
  (tRet (tAndT K (tCB (rIsiG K) (tCons (tVar 0) (tCons (tC (.ty "int")) tNil))) (tNotT K (tCB (rIsiG K) (tCons (tVar 0) (tCons (tC (.ty "bool")) tNil))))))
def t_is_small (K : PySem.W.Frag) (w : World) : TS :=
  (tRet (tOp rLtG (tCB rAbsG (tCons (tVar 0) tNil)) (tOp rPowG (tC (.int 10)) (tC (.int 60)))))
def t_within (K : PySem.W.Frag) (w : World) : TS :=
  (tSeq (tIfS (tTest (tOp (rInG K w false) (tIxG K w (tVar 0) (tC (.int 0))) (tC (.ref (He.ga K "PARTS"))))) (tRet (tCB (rListG K) (tCons (tSl (rSlG K) (tVar 0) (tPart (tC (.int 1))) tNoPart) tNil))) tNext)
  (tSeq (tIfS (tTest (tOp (rEqG K) (tIxG K w (tVar 0) (tC (.int 0))) (tC (.str "let")))) (tRet (tOp (rAddG K) (tLc (iSeq K (tIxG K w (tVar 0) (tC (.int 1)))) (gTup K 2 (gCons (gName 1) (gCons (gName 2) gNil))) tYes (tVar 2) [1, 2]) (tLstN (tCons (tIxG K w (tVar 0) (tC (.int 2))) tNil)))) tNext)
  (tRet (tLstN tNil))))
def t_in_order (K : PySem.W.Frag) (w : World) (s_within : Sp) : TS :=
  (tSeq (tAsg (tLstN tNil) (gName 1))
  (tSeq (tAsg (tLstN (tCons (tVar 0) tNil)) (gName 2))
  (tSeq (tWhile (tTest (tOp (rNeG K) (tVar 2) (tLstN tNil))) (tSeq (tAsg (tBM0 K "list" rPopG (tVar 2)) (gName 3))
  (tSeq (tDrop (tBM K "list" rAppendG (tVar 1) (tCons (tVar 3) tNil)))
  (tDrop (tBM K "list" rExtendG (tVar 2) (tCons (tRevG K (tCall s_within [] E0 (tCons (tVar 3) tNil))) tNil))))))
  (tRet (tVar 1)))))
def t_is_row (K : PySem.W.Frag) (w : World) (s_is_name : Sp) : TS :=
  (tRet (tAndT K (tCB (rIsiG K) (tCons (tVar 0) (tCons (tC (.ty "tuple")) tNil))) (tAndT K (tOp (rEqG K) (tCB (rLenG K) (tCons (tVar 0) tNil)) (tC (.int 2))) (tCall s_is_name [] E0 (tCons (tIxG K w (tVar 0) (tC (.int 0))) tNil)))))
def t_are_rows (K : PySem.W.Frag) (w : World) (s_is_row : Sp) : TS :=
  (tRet (tAndT K (tCB (rIsiG K) (tCons (tVar 0) (tCons (tC (.ty "tuple")) tNil))) (tAndT K (tChain rLeG rLeG (tC (.int 1)) (tCB (rLenG K) (tCons (tVar 0) tNil)) (tC (.int 4))) (tCB (rAll K) (tCons (tLc (iSeq K (tVar 0)) (gName 1) tYes (tCall s_is_row [] E0 (tCons (tVar 1) tNil)) [1]) tNil)))))
def t_parts_of (K : PySem.W.Frag) (w : World) (s_is_whole : Sp) (s_is_small : Sp) (s_is_name : Sp) (s_are_rows : Sp) : TS :=
  (tSeq (tIfS (tOr (tNot (tTru K (tCB (rIsiG K) (tCons (tVar 0) (tCons (tC (.ty "tuple")) tNil))))) (tOr (tTest (tOp rLtG (tCB (rLenG K) (tCons (tVar 0) tNil)) (tC (.int 2)))) (tNot (tTru K (tCB (rIsiG K) (tCons (tIxG K w (tVar 0) (tC (.int 0))) (tCons (tC (.ty "str")) tNil))))))) (tRet (tC .non)) tNext)
  (tSeq (tIfS (tAnd (tTest (tOp (rEqG K) (tIxG K w (tVar 0) (tC (.int 0))) (tC (.str "number")))) (tAnd (tTest (tOp (rEqG K) (tCB (rLenG K) (tCons (tVar 0) tNil)) (tC (.int 2)))) (tAnd (tTru K (tCall s_is_whole [] E0 (tCons (tIxG K w (tVar 0) (tC (.int 1))) tNil))) (tTru K (tCall s_is_small [] E0 (tCons (tIxG K w (tVar 0) (tC (.int 1))) tNil)))))) (tRet (tLstN tNil)) tNext)
  (tSeq (tIfS (tAnd (tTest (tOp (rInG K w false) (tIxG K w (tVar 0) (tC (.int 0))) (tTupN (tCons (tC (.str "name")) (tCons (tC (.str "fun")) tNil))))) (tAnd (tTest (tOp (rEqG K) (tCB (rLenG K) (tCons (tVar 0) tNil)) (tC (.int 2)))) (tTru K (tCall s_is_name [] E0 (tCons (tIxG K w (tVar 0) (tC (.int 1))) tNil))))) (tRet (tLstN tNil)) tNext)
  (tSeq (tIfS (tAnd (tTest (tOp (rInG K w false) (tIxG K w (tVar 0) (tC (.int 0))) (tC (.ref (He.ga K "PARTS"))))) (tTest (tOp (rEqG K) (tCB (rLenG K) (tCons (tVar 0) tNil)) (tOp (rAddG K) (tIxG K w (tC (.ref (He.ga K "PARTS"))) (tIxG K w (tVar 0) (tC (.int 0)))) (tC (.int 1)))))) (tRet (tCB (rListG K) (tCons (tSl (rSlG K) (tVar 0) (tPart (tC (.int 1))) tNoPart) tNil))) tNext)
  (tSeq (tIfS (tAnd (tTest (tOp (rEqG K) (tIxG K w (tVar 0) (tC (.int 0))) (tC (.str "let")))) (tAnd (tTest (tOp (rEqG K) (tCB (rLenG K) (tCons (tVar 0) tNil)) (tC (.int 3)))) (tTru K (tCall s_are_rows [] E0 (tCons (tIxG K w (tVar 0) (tC (.int 1))) tNil))))) (tRet (tOp (rAddG K) (tLc (iSeq K (tIxG K w (tVar 0) (tC (.int 1)))) (gName 1) tYes (tIxG K w (tVar 1) (tC (.int 1))) [1]) (tLstN (tCons (tIxG K w (tVar 0) (tC (.int 2))) tNil)))) tNext)
  (tRet (tC .non)))))))
def t_is_body (K : PySem.W.Frag) (w : World) (s_parts_of : Sp) : TS :=
  (tSeq (tAsg (tC (.int 0)) (gName 1))
  (tSeq (tAsg (tLstN (tCons (tTupN (tCons (tVar 0) (tCons (tC (.int 1)) tNil))) tNil)) (gName 2))
  (tSeq (tWhile (tTest (tOp (rNeG K) (tVar 2) (tLstN tNil))) (tSeq (tAsg (tBM0 K "list" rPopG (tVar 2)) (gTup K 2 (gCons (gName 3) (gCons (gName 4) gNil))))
  (tSeq (tAsg (tCall s_parts_of [] E0 (tCons (tVar 3) tNil)) (gName 5))
  (tSeq (tAsg (tOp (rAddG K) (tVar 1) (tC (.int 1))) (gName 1))
  (tSeq (tIfS (tOr (tTest (tOp (rIsG false) (tVar 5) (tC .non))) (tOr (tTest (tOp rGtG (tVar 4) (tC (.int 12)))) (tTest (tOp rGtG (tVar 1) (tC (.int 60)))))) (tRet (tC (.bl false))) tNext)
  (tDrop (tBM K "list" rExtendG (tVar 2) (tCons (tLc (iSeq K (tVar 5)) (gName 6) tYes (tTupN (tCons (tVar 6) (tCons (tOp (rAddG K) (tVar 4) (tC (.int 1))) tNil))) [6]) tNil))))))))
  (tRet (tC (.bl true))))))
def t_is_function (K : PySem.W.Frag) (w : World) (s_is_name : Sp) (s_is_body : Sp) : TS :=
  (tSeq (tIfS (tOr (tNot (tTru K (tCB (rIsiG K) (tCons (tVar 0) (tCons (tC (.ty "tuple")) tNil))))) (tOr (tTest (tOp (rNeG K) (tCB (rLenG K) (tCons (tVar 0) tNil)) (tC (.int 3)))) (tOr (tNot (tTru K (tCall s_is_name [] E0 (tCons (tIxG K w (tVar 0) (tC (.int 0))) tNil)))) (tNot (tTru K (tCB (rIsiG K) (tCons (tIxG K w (tVar 0) (tC (.int 1))) (tCons (tC (.ty "tuple")) tNil)))))))) (tRet (tC (.bl false))) tNext)
  (tRet (tAndT K (tOp rLeG (tCB (rLenG K) (tCons (tIxG K w (tVar 0) (tC (.int 1))) tNil)) (tC (.int 4))) (tAndT K (tCB (rAll K) (tCons (tLc (iSeq K (tIxG K w (tVar 0) (tC (.int 1)))) (gName 1) tYes (tCall s_is_name [] E0 (tCons (tVar 1) tNil)) [1]) tNil)) (tCall s_is_body [] E0 (tCons (tIxG K w (tVar 0) (tC (.int 2))) tNil))))))
def t_is_built (K : PySem.W.Frag) (w : World) (s_is_function : Sp) (s_is_body : Sp) : TS :=
  (tSeq (tIfS (tOr (tNot (tTru K (tCB (rIsiG K) (tCons (tVar 0) (tCons (tC (.ty "tuple")) tNil))))) (tOr (tTest (tOp (rNeG K) (tCB (rLenG K) (tCons (tVar 0) tNil)) (tC (.int 2)))) (tNot (tTru K (tCB (rIsiG K) (tCons (tIxG K w (tVar 0) (tC (.int 0))) (tCons (tC (.ty "tuple")) tNil))))))) (tRet (tC (.bl false))) tNext)
  (tRet (tAndT K (tOp rLeG (tCB (rLenG K) (tCons (tIxG K w (tVar 0) (tC (.int 0))) tNil)) (tC (.int 8))) (tAndT K (tCB (rAll K) (tCons (tLc (iSeq K (tIxG K w (tVar 0) (tC (.int 0)))) (gName 1) tYes (tCall s_is_function [] E0 (tCons (tVar 1) tNil)) [1]) tNil)) (tCall s_is_body [] E0 (tCons (tIxG K w (tVar 0) (tC (.int 1))) tNil))))))
def t_row_names (K : PySem.W.Frag) (w : World) (s_in_order : Sp) : TS :=
  (tSeq (tAsg (tLstN tNil) (gName 1))
  (tSeq (tFor (iSeq K (tCall s_in_order [] E0 (tCons (tVar 0) tNil))) (gName 2) (tIfS (tTest (tOp (rEqG K) (tIxG K w (tVar 2) (tC (.int 0))) (tC (.str "let")))) (tDrop (tBM K "list" rExtendG (tVar 1) (tCons (tLc (iSeq K (tIxG K w (tVar 2) (tC (.int 1)))) (gTup K 2 (gCons (gName 3) (gCons (gName 4) gNil))) tYes (tVar 3) [3, 4]) tNil))) tNext))
  (tRet (tVar 1))))
def tx_look_unlike (K : PySem.W.Frag) (w : World) (s_Hidden___init__ : Sp) (E : XK) : TS :=
  (tFor (iRng1 (tCons (tCB (rLenG K) (tCons (tVar 0) tNil)) tNil)) (gName 1) (tIfS (tTest (tOp (rInG K w false) (tIxG K w (tVar 0) (tVar 1)) (tSl (rSlG K) (tVar 0) tNoPart (tPart (tVar 1))))) (tRaiseI (He.ga K "Hidden") s_Hidden___init__ E (tCons (tIxG K w (tVar 0) (tVar 1)) tNil)) tNext))
def tx_look_named (K : PySem.W.Frag) (w : World) (s_Stranger___init__ : Sp) (s_look_named : Sp) (E : XK) : TS :=
  (tSeq (tIfS (tOr (tAnd (tTest (tOp (rEqG K) (tIxG K w (tVar 0) (tC (.int 0))) (tC (.str "name")))) (tTest (tOp (rInG K w true) (tIxG K w (tVar 0) (tC (.int 1))) (tVar 1)))) (tAnd (tTest (tOp (rEqG K) (tIxG K w (tVar 0) (tC (.int 0))) (tC (.str "fun")))) (tTest (tOp (rInG K w true) (tIxG K w (tVar 0) (tC (.int 1))) (tVar 2))))) (tRaiseI (He.ga K "Stranger") s_Stranger___init__ E (tCons (tIxG K w (tVar 0) (tC (.int 1))) tNil)) tNext)
  (tIfS (tTest (tOp (rEqG K) (tIxG K w (tVar 0) (tC (.int 0))) (tC (.str "let")))) (tSeq (tAsg (tOp (rAddG K) (tVar 1) (tLc (iSeq K (tIxG K w (tVar 0) (tC (.int 1)))) (gTup K 2 (gCons (gName 4) (gCons (gName 5) gNil))) tYes (tVar 4) [4, 5])) (gName 3))
  (tSeq (tFor (iSeq K (tIxG K w (tVar 0) (tC (.int 1)))) (gTup K 2 (gCons (gName 4) (gCons (gName 5) gNil))) (tDrop (tCallE s_look_named E (tCons (tVar 5) (tCons (tVar 3) (tCons (tVar 2) tNil))))))
  (tDrop (tCallE s_look_named E (tCons (tIxG K w (tVar 0) (tC (.int 2))) (tCons (tVar 3) (tCons (tVar 2) tNil))))))) (tIfS (tTest (tOp (rInG K w false) (tIxG K w (tVar 0) (tC (.int 0))) (tC (.ref (He.ga K "PARTS"))))) (tFor (iSeq K (tSl (rSlG K) (tVar 0) (tPart (tC (.int 1))) tNoPart)) (gName 5) (tDrop (tCallE s_look_named E (tCons (tVar 5) (tCons (tVar 1) (tCons (tVar 2) tNil)))))) tNext)))
def tx_looked (K : PySem.W.Frag) (w : World) (s_is_built : Sp) (s_Twice___init__ : Sp) (s_look_unlike : Sp) (s_row_names : Sp) (s_look_named : Sp) (E : XK) : TS :=
  (tSeq (tIfS (tNot (tTru K (tCall s_is_built [] E0 (tCons (tVar 0) tNil)))) (tRaiseO (He.ga K "NoProgram") E) tNext)
  (tSeq (tAsg (tLc (iSeq K (tIxG K w (tVar 0) (tC (.int 0)))) (gTup K 3 (gCons (gName 2) (gCons (gName 3) (gCons (gName 4) gNil)))) tYes (tVar 2) [2, 3, 4]) (gName 1))
  (tSeq (tFor (iRng1 (tCons (tCB (rLenG K) (tCons (tVar 1) tNil)) tNil)) (gName 5) (tIfS (tTest (tOp (rInG K w false) (tIxG K w (tVar 1) (tVar 5)) (tSl (rSlG K) (tVar 1) tNoPart (tPart (tVar 5))))) (tRaiseI (He.ga K "Twice") s_Twice___init__ E (tCons (tIxG K w (tVar 1) (tVar 5)) tNil)) tNext))
  (tSeq (tFor (iSeq K (tOp (rAddG K) (tLc (iSeq K (tIxG K w (tVar 0) (tC (.int 0)))) (gTup K 3 (gCons (gName 2) (gCons (gName 3) (gCons (gName 4) gNil)))) tYes (tTupN (tCons (tVar 3) (tCons (tVar 4) tNil))) [2, 3, 4]) (tLstN (tCons (tTupN (tCons (tTupN tNil) (tCons (tIxG K w (tVar 0) (tC (.int 1))) tNil))) tNil)))) (gTup K 2 (gCons (gName 3) (gCons (gName 4) gNil))) (tSeq (tDrop (tCallE s_look_unlike E (tCons (tOp (rAddG K) (tCB (rListG K) (tCons (tVar 3) tNil)) (tCall s_row_names [] E0 (tCons (tVar 4) tNil))) tNil)))
  (tDrop (tCallE s_look_named E (tCons (tVar 4) (tCons (tCB (rListG K) (tCons (tVar 3) tNil)) (tCons (tVar 1) tNil)))))))
  (tRet (tVar 0))))))
def t_law_pen (K : PySem.W.Frag) (w : World) : TS :=
  (tRet (tLstN (tCons (tCB (rListG K) (tCons (tSl (rSlG K) (tVar 0) tNoPart (tPart (tC (.int 63)))) tNil)) (tCons (tC (.int 0)) (tCons (tC (.int 0)) tNil)))))
def t_law_draw (K : PySem.W.Frag) (w : World) : TS :=
  (tSeq (tIfS (tTest (tOp rGtG (tIxG K w (tVar 0) (tC (.int 2))) (tC (.int 0)))) (tSeq (tAsg (tOp rModG (tIxG K w (tVar 0) (tC (.int 2))) (tVar 1)) (gName 2))
  (tSeq (tAsg (tOp rDivG (tIxG K w (tVar 0) (tC (.int 2))) (tVar 1)) (gSub (tVar 0) (tC (.int 2)) rSetG))
  (tRet (tVar 2)))) tNext)
  (tSeq (tAsg (tIxG K w (tVar 0) (tC (.int 1))) (gName 3))
  (tSeq (tAsg (tOp (rAddG K) (tVar 3) (tC (.int 1))) (gSub (tVar 0) (tC (.int 1)) rSetG))
  (tSeq (tAsg (tIxG K w (tOp (rAddG K) (tIxG K w (tVar 0) (tC (.int 0))) (tLstN (tCons (tC (.int 7)) tNil))) (tOp rModG (tVar 3) (tCB rMax2 (tCons (tC (.int 1)) (tCons (tCB (rLenG K) (tCons (tIxG K w (tVar 0) (tC (.int 0))) tNil)) tNil))))) (gName 4))
  (tSeq (tIfS (tAnd (tTest (tOp rLtG (tVar 3) (tCB (rLenG K) (tCons (tIxG K w (tVar 0) (tC (.int 0))) tNil)))) (tTest (tOp rGeG (tCB rAbsG (tCons (tVar 4) tNil)) (tOp rPowG (tC (.int 10)) (tC (.int 18)))))) (tSeq (tAsg (tOp rDivG (tCB rAbsG (tCons (tVar 4) tNil)) (tVar 1)) (gSub (tVar 0) (tC (.int 2)) rSetG))
  (tRet (tOp rModG (tCB rAbsG (tCons (tVar 4) tNil)) (tVar 1)))) tNext)
  (tSeq (tAsg (tIxG K w (tLstN (tCons (tC (.int 2147483647)) (tCons (tC (.int 2147483629)) (tCons (tC (.int 2147483587)) (tCons (tC (.int 2147483579)) (tCons (tC (.int 2147483563)) (tCons (tC (.int 2147483549)) (tCons (tC (.int 2147483543)) tNil)))))))) (tOp rModG (tVar 3) (tC (.int 7)))) (gName 5))
  (tSeq (tAsg (tOp rModG (tOp rMulG (tOp (rAddG K) (tOp (rAddG K) (tOp rModG (tVar 4) (tC (.int 2147483497))) (tOp rMulG (tC (.int 69621)) (tVar 3))) (tC (.int 13))) (tC (.int 48271))) (tVar 5)) (gName 6))
  (tSeq (tAsg (tOp rModG (tOp (rAddG K) (tOp (rAddG K) (tOp rMulG (tVar 6) (tVar 6)) (tOp rMulG (tC (.int 40692)) (tVar 6))) (tVar 3)) (tC (.int 2147483489))) (gName 6))
  (tSeq (tAsg (tOp rModG (tOp rMulG (tVar 6) (tC (.int 16807))) (tC (.int 2147483477))) (gName 6))
  (tSeq (tIfS (tTest (tOp rGtG (tVar 1) (tOp rPowG (tC (.int 10)) (tC (.int 7))))) (tAsg (tOp rPowG (tVar 6) (tC (.int 8))) (gName 6)) tNext)
  (tRet (tOp rModG (tOp rDivG (tVar 6) (tC (.int 32))) (tVar 1)))))))))))))
def t_law_names (K : PySem.W.Frag) (w : World) (s_law_draw : Sp) : TS :=
  (tSeq (tAsg (tC (.str "abcdefghijklmnopqrstuvwxyz")) (gName 2))
  (tSeq (tAsg (tM1 (rJoinG K) (tC (.str "")) (tLc (iRng1 (tCons (tOp (rAddG K) (tC (.int 1)) (tCall s_law_draw [] E0 (tCons (tVar 0) (tCons (tC (.int 8)) tNil)))) tNil)) (gName 4) tYes (tIxG K w (tVar 2) (tCall s_law_draw [] E0 (tCons (tVar 0) (tCons (tC (.int 26)) tNil)))) [4])) (gName 3))
  (tSeq (tAsg (tCall s_law_draw [] E0 (tCons (tVar 0) (tCons (tCB (rLenG K) (tCons (tVar 3) tNil)) tNil))) (gName 5))
  (tSeq (tAsg (tCall s_law_draw [] E0 (tCons (tVar 0) (tCons (tC (.int 26)) tNil))) (gName 6))
  (tSeq (tAsg (tIxG K w (tLstN (tCons (tC (.int 1)) (tCons (tC (.int 3)) (tCons (tC (.int 5)) (tCons (tC (.int 7)) (tCons (tC (.int 9)) (tCons (tC (.int 11)) tNil))))))) (tCall s_law_draw [] E0 (tCons (tVar 0) (tCons (tC (.int 6)) tNil)))) (gName 7))
  (tRet (tLc (iRng1 (tCons (tVar 1) tNil)) (gName 4) tYes (tOp (rAddG K) (tOp (rAddG K) (tSl (rSlG K) (tVar 3) tNoPart (tPart (tVar 5))) (tIxG K w (tVar 2) (tOp rModG (tOp (rAddG K) (tVar 6) (tOp rMulG (tVar 7) (tVar 4))) (tC (.int 26))))) (tSl (rSlG K) (tVar 3) (tPart (tOp (rAddG K) (tVar 5) (tC (.int 1)))) tNoPart)) [4])))))))
def t_law_number (K : PySem.W.Frag) (w : World) (s_law_draw : Sp) : TS :=
  (tSeq (tAsg (tCall s_law_draw [] E0 (tCons (tVar 0) (tCons (tC (.int 9)) tNil))) (gName 1))
  (tSeq (tIfS (tTest (tOp (rEqG K) (tVar 1) (tC (.int 8)))) (tRet (tOp (rAddG K) (tOp rSubG (tCall s_law_draw [] E0 (tCons (tVar 0) (tCons (tOp rSubG (tOp rMulG (tC (.int 2)) (tOp rPowG (tC (.int 10)) (tC (.int 60)))) (tC (.int 1))) tNil))) (tOp rPowG (tC (.int 10)) (tC (.int 60)))) (tC (.int 1)))) tNext)
  (tSeq (tIfS (tTest (tOp (rEqG K) (tVar 1) (tC (.int 7)))) (tRet (tOp rSubG (tCall s_law_draw [] E0 (tCons (tVar 0) (tCons (tOp rMulG (tC (.int 2)) (tOp rPowG (tC (.int 10)) (tC (.int 31)))) tNil))) (tOp rPowG (tC (.int 10)) (tC (.int 31))))) tNext)
  (tRet (tOp rSubG (tCall s_law_draw [] E0 (tCons (tVar 0) (tCons (tC (.int 9)) tNil))) (tIxG K w (tLstN (tCons (tC (.int 0)) (tCons (tC (.int 0)) (tCons (tC (.int 0)) (tCons (tC (.int 1)) (tCons (tC (.int 2)) (tCons (tC (.int 4)) (tCons (tC (.int 0)) tNil)))))))) (tVar 1)))))))
def t_law_leaf (K : PySem.W.Frag) (w : World) (s_law_draw : Sp) (s_law_number : Sp) : TS :=
  (tSeq (tAsg (tCall s_law_draw [] E0 (tCons (tVar 0) (tCons (tC (.int 8)) tNil))) (gName 4))
  (tSeq (tIfS (tAnd (tTest (tOp (rNeG K) (tVar 2) (tLstN tNil))) (tTest (tOp rGtG (tVar 4) (tC (.int 2))))) (tRet (tTupN (tCons (tC (.str "name")) (tCons (tIxG K w (tVar 2) (tCall s_law_draw [] E0 (tCons (tVar 0) (tCons (tCB (rLenG K) (tCons (tVar 2) tNil)) tNil)))) tNil)))) tNext)
  (tSeq (tIfS (tAnd (tTest (tOp (rNeG K) (tVar 1) (tLstN tNil))) (tAnd (tTest (tOp (rEqG K) (tVar 3) (tC (.str "any")))) (tTest (tOp (rEqG K) (tVar 4) (tC (.int 0)))))) (tRet (tTupN (tCons (tC (.str "fun")) (tCons (tIxG K w (tIxG K w (tVar 1) (tCall s_law_draw [] E0 (tCons (tVar 0) (tCons (tCB (rLenG K) (tCons (tVar 1) tNil)) tNil)))) (tC (.int 0))) tNil)))) tNext)
  (tRet (tTupN (tCons (tC (.str "number")) (tCons (tCall s_law_number [] E0 (tCons (tVar 0) tNil)) tNil)))))))
def t_law_fits (K : PySem.W.Frag) (w : World) : TS :=
  (tSeq (tIfS (tTest (tOp rLtG (tIxG K w (tIxG K w (tVar 0) (tC (.int 1))) (tC (.int 0))) (tVar 1))) (tRet (tC (.bl false))) tNext)
  (tSeq (tAsg (tOp rSubG (tIxG K w (tIxG K w (tVar 0) (tC (.int 1))) (tC (.int 0))) (tVar 1)) (gSub (tIxG K w (tVar 0) (tC (.int 1))) (tC (.int 0)) rSetG))
  (tRet (tC (.bl true)))))
def t_law_call (K : PySem.W.Frag) (w : World) (s_law_draw : Sp) (s_law_fits : Sp) (s_law_leaf : Sp) (s_law_part : Sp) : TS :=
  (tSeq (tAsg (tIxG K w (tVar 1) (tCall s_law_draw [] E0 (tCons (tVar 0) (tCons (tCB (rLenG K) (tCons (tVar 1) tNil)) tNil)))) (gTup K 2 (gCons (gName 5) (gCons (gName 6) gNil))))
  (tSeq (tAsg (tCB rMax2 (tCons (tC (.int 0)) (tCons (tOp (rAddG K) (tVar 6) (tIxG K w (tLstN (tCons (tC (.int 0)) (tCons (tC (.int 0)) (tCons (tC (.int 0)) (tCons (tC (.int 0)) (tCons (tC (.int 0)) (tCons (tC (.int 0)) (tCons (tC (.int 1)) (tCons (tUn (rU fun i => .int (-i)) (tC (.int 1))) tNil))))))))) (tCall s_law_draw [] E0 (tCons (tVar 0) (tCons (tC (.int 8)) tNil))))) tNil))) (gName 7))
  (tSeq (tIfS (tNot (tTru K (tCall s_law_fits [] E0 (tCons (tVar 3) (tCons (tOp rMulG (tC (.int 2)) (tVar 7)) tNil))))) (tRet (tCall s_law_leaf [] E0 (tCons (tVar 0) (tCons (tVar 1) (tCons (tVar 2) (tCons (tVar 4) tNil)))))) tNext)
  (tSeq (tAsg (tTupN (tCons (tC (.str "fun")) (tCons (tVar 5) tNil))) (gName 8))
  (tSeq (tAsg (tLstN (tCons (tOp rSubG (tIxG K w (tVar 3) (tC (.int 0))) (tVar 7)) (tCons (tIxG K w (tVar 3) (tC (.int 1))) (tCons (tIxG K w (tVar 3) (tC (.int 2))) tNil)))) (gName 9))
  (tSeq (tFor (iRng1 (tCons (tVar 7) tNil)) (gName 10) (tAsg (tTupN (tCons (tC (.str "give")) (tCons (tVar 8) (tCons (tCall s_law_part [] E0 (tCons (tVar 0) (tCons (tVar 1) (tCons (tVar 2) (tCons (tVar 9) (tCons (tIxG K w (tLstN (tCons (tC (.str "number")) (tCons (tC (.str "any")) tNil))) (tOp rDivG (tCall s_law_draw [] E0 (tCons (tVar 0) (tCons (tC (.int 3)) tNil))) (tC (.int 2)))) tNil)))))) tNil)))) (gName 8)))
  (tRet (tVar 8))))))))
def t_law_let (K : PySem.W.Frag) (w : World) (s_law_draw : Sp) (s_law_fits : Sp) (s_law_leaf : Sp) (s_law_part : Sp) : TS :=
  (tSeq (tAsg (tIxG K w (tLstN (tCons (tC (.int 1)) (tCons (tC (.int 1)) (tCons (tC (.int 2)) (tCons (tC (.int 1)) (tCons (tC (.int 2)) (tCons (tC (.int 3)) (tCons (tC (.int 4)) tNil)))))))) (tCall s_law_draw [] E0 (tCons (tVar 0) (tCons (tC (.int 7)) tNil)))) (gName 5))
  (tSeq (tIfS (tOr (tTest (tOp rLtG (tCB (rLenG K) (tCons (tIxG K w (tVar 3) (tC (.int 2))) tNil)) (tVar 5))) (tNot (tTru K (tCall s_law_fits [] E0 (tCons (tVar 3) (tCons (tOp (rAddG K) (tVar 5) (tC (.int 1))) tNil)))))) (tRet (tCall s_law_leaf [] E0 (tCons (tVar 0) (tCons (tVar 1) (tCons (tVar 2) (tCons (tVar 4) tNil)))))) tNext)
  (tSeq (tAsg (tLc (iRng1 (tCons (tVar 5) tNil)) (gName 7) tYes (tBM0 K "list" rPopG (tIxG K w (tVar 3) (tC (.int 2)))) [7]) (gName 6))
  (tSeq (tAsg (tLstN tNil) (gName 8))
  (tSeq (tFor (iSeq K (tVar 6)) (gName 9) (tSeq (tAsg (tIxG K w (tLstN (tCons (tC (.str "number")) (tCons (tC (.str "pair")) (tCons (tC (.str "any")) tNil)))) (tCall s_law_draw [] E0 (tCons (tVar 0) (tCons (tC (.int 3)) tNil)))) (gName 10))
  (tDrop (tBM K "list" rAppendG (tVar 8) (tCons (tTupN (tCons (tVar 9) (tCons (tCall s_law_part [] E0 (tCons (tVar 0) (tCons (tVar 1) (tCons (tOp (rAddG K) (tVar 2) (tVar 6)) (tCons (tVar 3) (tCons (tVar 10) tNil)))))) tNil))) tNil)))))
  (tRet (tTupN (tCons (tC (.str "let")) (tCons (tCB (rTupleG K) (tCons (tVar 8) tNil)) (tCons (tCall s_law_part [] E0 (tCons (tVar 0) (tCons (tVar 1) (tCons (tOp (rAddG K) (tVar 2) (tVar 6)) (tCons (tVar 3) (tCons (tVar 4) tNil)))))) tNil))))))))))
def t_law_part (K : PySem.W.Frag) (w : World) (s_law_draw : Sp) (s_law_leaf : Sp) (s_law_call : Sp) (s_law_let : Sp) (s_law_fits : Sp) (s_law_part : Sp) : TS :=
  (tSeq (tAsg (tDispN (((tC (.str "number")), (tC (.str "op op op op op op when when side let call call call call leaf leaf"))) :: [])) (gName 5))
  (tSeq (tAsg (tC (.str "pair pair pair pair when when side side let let call call call op leaf pair")) (gSub (tVar 5) (tC (.str "pair")) rSetG))
  (tSeq (tAsg (tC (.str "op op pair pair pair when when side side let let call call call leaf leaf")) (gSub (tVar 5) (tC (.str "any")) rSetG))
  (tSeq (tAsg (tIxG K w (tM1 rSplitG (tIxG K w (tVar 5) (tVar 4)) (tC (.str " "))) (tCall s_law_draw [] E0 (tCons (tVar 0) (tCons (tC (.int 16)) tNil)))) (gName 6))
  (tSeq (tAsg (tLstN (tCons (tOp rSubG (tIxG K w (tVar 3) (tC (.int 0))) (tC (.int 1))) (tCons (tIxG K w (tVar 3) (tC (.int 1))) (tCons (tIxG K w (tVar 3) (tC (.int 2))) tNil)))) (gName 7))
  (tSeq (tIfS (tOr (tTest (tOp rLtG (tIxG K w (tVar 3) (tC (.int 0))) (tC (.int 1)))) (tOr (tTest (tOp (rEqG K) (tVar 6) (tC (.str "leaf")))) (tAnd (tTest (tOp (rEqG K) (tVar 6) (tC (.str "call")))) (tOr (tTest (tOp (rEqG K) (tVar 1) (tLstN tNil))) (tTest (tOp rLtG (tIxG K w (tVar 3) (tC (.int 0))) (tC (.int 6)))))))) (tRet (tCall s_law_leaf [] E0 (tCons (tVar 0) (tCons (tVar 1) (tCons (tVar 2) (tCons (tVar 4) tNil)))))) tNext)
  (tSeq (tIfS (tTest (tOp (rEqG K) (tVar 6) (tC (.str "call")))) (tRet (tCall s_law_call [] E0 (tCons (tVar 0) (tCons (tVar 1) (tCons (tVar 2) (tCons (tVar 7) (tCons (tVar 4) tNil))))))) tNext)
  (tSeq (tIfS (tTest (tOp (rEqG K) (tVar 6) (tC (.str "let")))) (tRet (tCall s_law_let [] E0 (tCons (tVar 0) (tCons (tVar 1) (tCons (tVar 2) (tCons (tVar 7) (tCons (tVar 4) tNil))))))) tNext)
  (tSeq (tIfS (tNot (tTru K (tCall s_law_fits [] E0 (tCons (tVar 3) (tCons (tIxG K w (tDispN (((tC (.str "side")), (tC (.int 1))) :: (((tC (.str "pair")), (tC (.int 2))) :: (((tC (.str "when")), (tC (.int 3))) :: (((tC (.str "op")), (tC (.int 2))) :: []))))) (tVar 6)) tNil))))) (tRet (tCall s_law_leaf [] E0 (tCons (tVar 0) (tCons (tVar 1) (tCons (tVar 2) (tCons (tVar 4) tNil)))))) tNext)
  (tSeq (tIfS (tTest (tOp (rEqG K) (tVar 6) (tC (.str "side")))) (tRet (tTupN (tCons (tIxG K w (tLstN (tCons (tC (.str "left")) (tCons (tC (.str "right")) tNil))) (tCall s_law_draw [] E0 (tCons (tVar 0) (tCons (tC (.int 2)) tNil)))) (tCons (tCall s_law_part [] E0 (tCons (tVar 0) (tCons (tVar 1) (tCons (tVar 2) (tCons (tVar 7) (tCons (tC (.str "pair")) tNil)))))) tNil)))) tNext)
  (tSeq (tAsg (tCall s_law_part [] E0 (tCons (tVar 0) (tCons (tVar 1) (tCons (tVar 2) (tCons (tVar 7) (tCons (tIxG K w (tLstN (tCons (tC (.str "number")) (tCons (tC (.str "any")) tNil))) (tCB rIntG (tCons (tOp (rEqG K) (tVar 6) (tC (.str "pair"))) tNil))) tNil)))))) (gName 8))
  (tSeq (tAsg (tCall s_law_part [] E0 (tCons (tVar 0) (tCons (tVar 1) (tCons (tVar 2) (tCons (tVar 7) (tCons (tIxG K w (tDispN (((tC (.str "pair")), (tC (.str "any"))) :: (((tC (.str "when")), (tVar 4)) :: (((tC (.str "op")), (tC (.str "number"))) :: [])))) (tVar 6)) tNil)))))) (gName 9))
  (tSeq (tIfS (tTest (tOp (rEqG K) (tVar 6) (tC (.str "pair")))) (tRet (tTupN (tCons (tC (.str "pair")) (tCons (tVar 8) (tCons (tVar 9) tNil))))) tNext)
  (tSeq (tIfS (tTest (tOp (rEqG K) (tVar 6) (tC (.str "when")))) (tRet (tTupN (tCons (tC (.str "when")) (tCons (tVar 8) (tCons (tVar 9) (tCons (tCall s_law_part [] E0 (tCons (tVar 0) (tCons (tVar 1) (tCons (tVar 2) (tCons (tVar 7) (tCons (tVar 4) tNil)))))) tNil)))))) tNext)
  (tRet (tTupN (tCons (tIxG K w (tLstN (tCons (tC (.str "plus")) (tCons (tC (.str "less")) (tCons (tC (.str "times")) (tCons (tC (.str "below")) tNil))))) (tCall s_law_draw [] E0 (tCons (tVar 0) (tCons (tC (.int 4)) tNil)))) (tCons (tVar 8) (tCons (tVar 9) tNil)))))))))))))))))))
def t_law_loop (K : PySem.W.Frag) (w : World) (s_law_part : Sp) (s_law_draw : Sp) : TS :=
  (tSeq (tAsg (tTupN (tCons (tC (.str "give")) (tCons (tTupN (tCons (tC (.str "fun")) (tCons (tVar 2) tNil))) (tCons (tTupN (tCons (tC (.str "less")) (tCons (tTupN (tCons (tC (.str "name")) (tCons (tIxG K w (tVar 3) (tC (.int 0))) tNil))) (tCons (tTupN (tCons (tC (.str "number")) (tCons (tC (.int 1)) tNil))) tNil)))) tNil)))) (gName 5))
  (tSeq (tFor (iSeq K (tSl (rSlG K) (tVar 3) (tPart (tC (.int 1))) tNoPart)) (gName 6) (tSeq (tAsg (tCall s_law_part [] E0 (tCons (tVar 0) (tCons (tVar 1) (tCons (tVar 3) (tCons (tLstN (tCons (tC (.int 2)) (tCons (tIxG K w (tVar 4) (tC (.int 1))) (tCons (tIxG K w (tVar 4) (tC (.int 2))) tNil)))) (tCons (tC (.str "any")) tNil)))))) (gName 7))
  (tAsg (tTupN (tCons (tC (.str "give")) (tCons (tVar 5) (tCons (tIxG K w (tLstN (tCons (tTupN (tCons (tC (.str "name")) (tCons (tVar 6) tNil))) (tCons (tVar 7) tNil))) (tCall s_law_draw [] E0 (tCons (tVar 0) (tCons (tC (.int 2)) tNil)))) tNil)))) (gName 5))))
  (tSeq (tAsg (tCall s_law_part [] E0 (tCons (tVar 0) (tCons (tVar 1) (tCons (tVar 3) (tCons (tLstN (tCons (tC (.int 3)) (tCons (tIxG K w (tVar 4) (tC (.int 1))) (tCons (tIxG K w (tVar 4) (tC (.int 2))) tNil)))) (tCons (tC (.str "number")) tNil)))))) (gName 8))
  (tSeq (tAsg (tIxG K w (tLstN (tCons (tVar 5) (tCons (tTupN (tCons (tC (.str "plus")) (tCons (tVar 8) (tCons (tVar 5) tNil)))) (tCons (tTupN (tCons (tC (.str "pair")) (tCons (tVar 8) (tCons (tVar 5) tNil)))) (tCons (tTupN (tCons (tC (.str "plus")) (tCons (tVar 5) (tCons (tVar 8) tNil)))) tNil))))) (tCall s_law_draw [] E0 (tCons (tVar 0) (tCons (tC (.int 4)) tNil)))) (gName 9))
  (tRet (tTupN (tCons (tC (.str "when")) (tCons (tTupN (tCons (tC (.str "name")) (tCons (tIxG K w (tVar 3) (tC (.int 0))) tNil))) (tCons (tVar 9) (tCons (tCall s_law_part [] E0 (tCons (tVar 0) (tCons (tVar 1) (tCons (tVar 3) (tCons (tLstN (tCons (tC (.int 3)) (tCons (tIxG K w (tVar 4) (tC (.int 1))) (tCons (tIxG K w (tVar 4) (tC (.int 2))) tNil)))) (tCons (tC (.str "number")) tNil)))))) tNil))))))))))
def t_law_body (K : PySem.W.Frag) (w : World) (s_law_draw : Sp) (s_law_loop : Sp) (s_law_part : Sp) : TS :=
  (tSeq (tAsg (tIxG K w (tLstN (tCons (tC (.int 2)) (tCons (tC (.int 7)) (tCons (tC (.int 9)) (tCons (tC (.int 11)) tNil))))) (tCall s_law_draw [] E0 (tCons (tVar 0) (tCons (tC (.int 4)) tNil)))) (gName 5))
  (tSeq (tAsg (tIxG K w (tLstN (tCons (tC (.int 2)) (tCons (tC (.int 7)) (tCons (tC (.int 14)) (tCons (tC (.int 24)) (tCons (tC (.int 40)) (tCons (tC (.int 59)) tNil))))))) (tCall s_law_draw [] E0 (tCons (tVar 0) (tCons (tC (.int 6)) tNil)))) (gName 6))
  (tSeq (tIfS (tAnd (tTest (tOp (rNeG K) (tVar 2) (tC (.str "")))) (tAnd (tTest (tOp (rNeG K) (tVar 3) (tLstN tNil))) (tTest (tOp (rEqG K) (tCall s_law_draw [] E0 (tCons (tVar 0) (tCons (tC (.int 3)) tNil))) (tC (.int 0)))))) (tRet (tCall s_law_loop [] E0 (tCons (tVar 0) (tCons (tVar 1) (tCons (tVar 2) (tCons (tVar 3) (tCons (tLstN (tCons (tVar 5) (tCons (tLstN (tCons (tCB rMin2 (tCons (tVar 6) (tCons (tC (.int 40)) tNil))) tNil)) (tCons (tVar 4) tNil)))) tNil))))))) tNext)
  (tSeq (tIfS (tAnd (tTest (tOp (rEqG K) (tVar 2) (tC (.str "")))) (tAnd (tTest (tOp (rNeG K) (tVar 1) (tLstN tNil))) (tTest (tOp (rEqG K) (tCall s_law_draw [] E0 (tCons (tVar 0) (tCons (tC (.int 2)) tNil))) (tC (.int 0)))))) (tSeq (tAsg (tTupN (tCons (tC (.str "fun")) (tCons (tIxG K w (tIxG K w (tVar 1) (tC (.int 0))) (tC (.int 0))) tNil))) (gName 7))
  (tSeq (tFor (iRng1 (tCons (tIxG K w (tIxG K w (tVar 1) (tC (.int 0))) (tC (.int 1))) tNil)) (gName 8) (tAsg (tTupN (tCons (tC (.str "give")) (tCons (tVar 7) (tCons (tTupN (tCons (tC (.str "number")) (tCons (tCall s_law_draw [] E0 (tCons (tVar 0) (tCons (tC (.int 8)) tNil))) tNil))) tNil)))) (gName 7)))
  (tRet (tVar 7)))) tNext)
  (tRet (tCall s_law_part [] E0 (tCons (tVar 0) (tCons (tVar 1) (tCons (tVar 3) (tCons (tLstN (tCons (tVar 5) (tCons (tLstN (tCons (tVar 6) tNil)) (tCons (tVar 4) tNil)))) (tCons (tC (.str "any")) tNil)))))))))))
def t_law_program (K : PySem.W.Frag) (w : World) (s_law_names : Sp) (s_law_draw : Sp) (s_law_body : Sp) : TS :=
  (tSeq (tAsg (tCall s_law_names [] E0 (tCons (tVar 0) (tCons (tIxG K w (tLstN (tCons (tC (.int 0)) (tCons (tC (.int 1)) (tCons (tC (.int 2)) (tCons (tC (.int 3)) (tCons (tC (.int 4)) (tCons (tC (.int 2)) (tCons (tC (.int 3)) (tCons (tC (.int 8)) tNil))))))))) (tCall s_law_draw [] E0 (tCons (tVar 0) (tCons (tC (.int 8)) tNil)))) tNil))) (gName 1))
  (tSeq (tAsg (tLc (iSeq K (tVar 1)) (gName 3) tYes (tTupN (tCons (tVar 3) (tCons (tIxG K w (tLstN (tCons (tC (.int 1)) (tCons (tC (.int 0)) (tCons (tC (.int 1)) (tCons (tC (.int 2)) (tCons (tC (.int 2)) (tCons (tC (.int 3)) (tCons (tC (.int 4)) tNil)))))))) (tCall s_law_draw [] E0 (tCons (tVar 0) (tCons (tC (.int 7)) tNil)))) tNil))) [3]) (gName 2))
  (tSeq (tAsg (tLstN tNil) (gName 4))
  (tSeq (tFor (iSeq K (tVar 2)) (gTup K 2 (gCons (gName 3) (gCons (gName 5) gNil))) (tSeq (tAsg (tCall s_law_names [] E0 (tCons (tVar 0) (tCons (tC (.int 26)) tNil))) (gName 6))
  (tSeq (tAsg (tSl (rSlG K) (tVar 6) tNoPart (tPart (tVar 5))) (gName 7))
  (tDrop (tBM K "list" rAppendG (tVar 4) (tCons (tTupN (tCons (tVar 3) (tCons (tCB (rTupleG K) (tCons (tVar 7) tNil)) (tCons (tCall s_law_body [] E0 (tCons (tVar 0) (tCons (tVar 2) (tCons (tVar 3) (tCons (tVar 7) (tCons (tSl (rSlG K) (tVar 6) (tPart (tVar 5)) tNoPart) tNil)))))) tNil)))) tNil))))))
  (tRet (tTupN (tCons (tCB (rTupleG K) (tCons (tVar 4) tNil)) (tCons (tCall s_law_body [] E0 (tCons (tVar 0) (tCons (tVar 2) (tCons (tC (.str "")) (tCons (tLstN tNil) (tCons (tCall s_law_names [] E0 (tCons (tVar 0) (tCons (tC (.int 26)) tNil))) tNil)))))) tNil))))))))
def t_law_told (K : PySem.W.Frag) (w : World) (s_looked : Sp) : TS :=
  (tSeq (tAsg (tC .non) (gName 1))
  (tSeq (tAsg (tC .non) (gName 2))
  (tSeq (tTryK K (.ref (He.ga K "LazyError")) 3 (fun W => (tAsg (tCallS s_looked (WE W) (tCons (tVar 0) tNil)) (gName 1))) (fun _ _ _ => (tAsg (tVar 3) (gName 2))))
  (tSeq (tIfS (tTest (tOp (rIsG false) (tVar 2) (tC .non))) (tRet (tIf (tTest (tOp (rEqG K) (tVar 1) (tVar 0))) (tTupN (tCons (tC (.str "")) (tCons (tC (.str "")) tNil))) (tTupN (tCons (tC (.str "another")) (tCons (tC (.str "")) tNil))))) tNext)
  (tSeq (tAsg (tLstN (tCons (tCB (rIsiX K) (tCons (tVar 2) (tCons (tC (.ref (He.ga K "NoProgram"))) tNil))) (tCons (tCB (rIsiX K) (tCons (tVar 2) (tCons (tC (.ref (He.ga K "Twice"))) tNil))) (tCons (tCB (rIsiX K) (tCons (tVar 2) (tCons (tC (.ref (He.ga K "Hidden"))) tNil))) tNil)))) (gName 4))
  (tSeq (tAsg (tOp (rAddG K) (tVar 4) (tLstN (tCons (tCB (rIsiX K) (tCons (tVar 2) (tCons (tC (.ref (He.ga K "Stranger"))) tNil))) (tCons (tCB (rIsiX K) (tCons (tVar 2) (tCons (tC (.ref (He.ga K "More"))) tNil))) (tCons (tCB (rIsiX K) (tCons (tVar 2) (tCons (tC (.ref (He.ga K "NoRows"))) tNil))) tNil))))) (gName 4))
  (tSeq (tAsg (tOp (rAddG K) (tVar 4) (tLstN (tCons (tCB (rIsiX K) (tCons (tVar 2) (tCons (tC (.ref (He.ga K "NoText"))) tNil))) (tCons (tCB (rIsiX K) (tCons (tVar 2) (tCons (tC (.ref (He.ga K "NoRow"))) tNil))) tNil)))) (gName 4))
  (tSeq (tIfS (tOr (tTest (tOp (rNeG K) (tBM K "list" (rCount K) (tVar 4) (tCons (tC (.bl true)) tNil)) (tC (.int 1)))) (tOr (tNot (tTru K (tCB (rIsiX K) (tCons (tVar 2) (tCons (tC (.ty "ValueError")) tNil))))) (tTest (tOp rGtG (tBM K "list" (rIndex K) (tVar 4) (tCons (tC (.bl true)) tNil)) (tC (.int 3)))))) (tRet (tTupN (tCons (tC (.str "none")) (tCons (tC (.str "")) tNil)))) tNext)
  (tSeq (tIfS (tTru K (tIxG K w (tVar 4) (tC (.int 0)))) (tRet (tTupN (tCons (tC (.str "program")) (tCons (tC (.str "")) tNil)))) tNext)
  (tRet (tTupN (tCons (tIxG K w (tLstN (tCons (tC (.str "program")) (tCons (tC (.str "twice")) (tCons (tC (.str "hidden")) (tCons (tC (.str "stranger")) tNil))))) (tBM K "list" (rIndex K) (tVar 4) (tCons (tC (.bl true)) tNil))) (tCons (tFldX K "name" (tVar 2)) tNil)))))))))))))
def t_law_nested (K : PySem.W.Frag) (w : World) (s_law_draw : Sp) : TS :=
  (tSeq (tAsg (tIxG K w (tLstN (tCons (tC .non) (tCons (tC (.bl true)) (tCons (tC (.int 5)) (tCons (tC (.str "give")) (tCons (tTupN tNil) (tCons (tLstN tNil) (tCons (tTupN (tCons (tC (.str "number")) tNil)) (tCons (tC (.str "?")) tNil))))))))) (tCall s_law_draw [] E0 (tCons (tVar 0) (tCons (tC (.int 8)) tNil)))) (gName 1))
  (tSeq (tFor (iRng1 (tCons (tCall s_law_draw [] E0 (tCons (tVar 0) (tCons (tC (.int 26)) tNil))) tNil)) (gName 2) (tAsg (tIxG K w (tLstN (tCons (tTupN (tCons (tVar 1) tNil)) (tCons (tLstN (tCons (tVar 1) tNil)) (tCons (tIf (tTest (tOp rLtG (tVar 2) (tC (.int 5)))) (tTupN (tCons (tVar 1) (tCons (tVar 1) tNil))) (tTupN (tCons (tVar 1) tNil))) (tCons (tTupN (tCons (tC (.str "left")) (tCons (tVar 1) tNil))) tNil))))) (tCall s_law_draw [] E0 (tCons (tVar 0) (tCons (tC (.int 4)) tNil)))) (gName 1)))
  (tRet (tVar 1))))
def t_law_things (K : PySem.W.Frag) (w : World) (s_law_nested : Sp) (s_law_draw : Sp) : TS :=
  (tSeq (tAsg (tVar 1) (gTup K 2 (gCons (gName 2) (gCons (gName 3) gNil))))
  (tSeq (tAsg (tLstN (tCons (tC .non) (tCons (tC (.bl true)) (tCons (tC (.bl false)) (tCons (tC (.int 0)) (tCons (tC (.int 7)) (tCons (tC (.str "")) (tCons (tC (.str "program")) (tCons (tTupN tNil) (tCons (tLstN tNil) (tCons (tTupN (tCons (tTupN tNil) tNil)) (tCons (tTupN (tCons (tVar 2) tNil)) (tCons (tTupN (tCons (tVar 2) (tCons (tVar 3) (tCons (tVar 3) tNil)))) tNil))))))))))))) (gName 4))
  (tSeq (tAsg (tOp (rAddG K) (tVar 4) (tLstN (tCons (tCB (rListG K) (tCons (tVar 1) tNil)) (tCons (tTupN (tCons (tCB (rListG K) (tCons (tVar 2) tNil)) (tCons (tVar 3) tNil))) (tCons (tTupN (tCons (tC .non) (tCons (tVar 3) tNil))) (tCons (tTupN (tCons (tVar 2) (tCons (tC .non) tNil))) (tCons (tTupN (tCons (tVar 3) (tCons (tVar 2) tNil))) tNil))))))) (gName 4))
  (tSeq (tAsg (tOp (rAddG K) (tVar 4) (tLstN (tCons (tTupN (tCons (tVar 2) (tCons (tVar 1) tNil))) (tCons (tTupN (tCons (tTupN (tCons (tVar 1) tNil)) (tCons (tVar 3) tNil))) (tCons (tTupN (tCons (tC (.str "functions")) (tCons (tVar 3) tNil))) (tCons (tTupN (tCons (tVar 2) (tCons (tCB (rListG K) (tCons (tVar 3) tNil)) tNil))) tNil)))))) (gName 4))
  (tSeq (tAsg (tOp (rAddG K) (tVar 4) (tLstN (tCons (tCall s_law_nested [] E0 (tCons (tVar 0) tNil)) (tCons (tTupN (tCons (tVar 2) (tCons (tCall s_law_nested [] E0 (tCons (tVar 0) tNil)) tNil))) (tCons (tTupN (tCons (tTupN (tCons (tCall s_law_nested [] E0 (tCons (tVar 0) tNil)) tNil)) (tCons (tVar 3) tNil))) tNil))))) (gName 4))
  (tSeq (tIfS (tTest (tOp (rNeG K) (tVar 2) (tTupN tNil))) (tSeq (tAsg (tCall s_law_draw [] E0 (tCons (tVar 0) (tCons (tCB (rLenG K) (tCons (tVar 2) tNil)) tNil))) (gName 5))
  (tSeq (tAsg (tIxG K w (tVar 2) (tVar 5)) (gTup K 3 (gCons (gName 6) (gCons (gName 7) (gCons (gName 8) gNil)))))
  (tSeq (tAsg (tLstN (tCons (tCB (rListG K) (tCons (tIxG K w (tVar 2) (tVar 5)) tNil)) (tCons (tTupN (tCons (tVar 6) (tCons (tCB (rListG K) (tCons (tVar 7) tNil)) (tCons (tVar 8) tNil)))) (tCons (tTupN (tCons (tVar 6) (tCons (tC .non) (tCons (tVar 8) tNil)))) (tCons (tTupN (tCons (tVar 6) (tCons (tVar 7) tNil))) tNil))))) (gName 9))
  (tSeq (tAsg (tOp (rAddG K) (tVar 9) (tLstN (tCons (tTupN (tCons (tVar 7) (tCons (tVar 6) (tCons (tVar 8) tNil)))) (tCons (tTupN (tCons (tVar 6) (tCons (tVar 7) (tCons (tVar 8) (tCons (tVar 8) tNil))))) (tCons (tC .non) (tCons (tVar 6) (tCons (tTupN (tCons (tC .non) (tCons (tVar 7) (tCons (tVar 8) tNil)))) tNil))))))) (gName 9))
  (tSeq (tAsg (tOp (rAddG K) (tVar 9) (tLstN (tCons (tTupN (tCons (tVar 6) (tCons (tC (.str "")) (tCons (tVar 8) tNil)))) (tCons (tTupN (tCons (tVar 6) (tCons (tVar 7) (tCons (tC .non) tNil)))) tNil)))) (gName 9))
  (tFor (iSeq K (tVar 9)) (gName 10) (tDrop (tBM K "list" rAppendG (tVar 4) (tCons (tTupN (tCons (tOp (rAddG K) (tOp (rAddG K) (tSl (rSlG K) (tVar 2) tNoPart (tPart (tVar 5))) (tTupN (tCons (tVar 10) tNil))) (tSl (rSlG K) (tVar 2) (tPart (tOp (rAddG K) (tVar 5) (tC (.int 1)))) tNoPart)) (tCons (tVar 3) tNil))) tNil))))))))) tNext)
  (tRet (tVar 4))))))))
def t_law (K : PySem.W.Frag) (w : World) (s_law_pen : Sp) (s_law_program : Sp) (s_law_things : Sp) (s_law_told : Sp) (s_looked : Sp) : TS :=
  (tSeq (tAsg (tCall s_law_pen [] E0 (tCons (tVar 0) tNil)) (gName 1))
  (tSeq (tFor (iRng1 (tCons (tCB rMax2 (tCons (tC (.int 1)) (tCons (tCB rMin2 (tCons (tC (.int 6)) (tCons (tCB (rLenG K) (tCons (tVar 0) tNil)) tNil))) tNil))) tNil)) (gName 2) (tSeq (tAsg (tCall s_law_program [] E0 (tCons (tVar 1) tNil)) (gName 3))
  (tSeq (tFor (iSeq K (tCall s_law_things [] E0 (tCons (tVar 1) (tCons (tVar 3) tNil)))) (gName 4) (tIfS (tTest (tOp (rNeG K) (tCall s_law_told [] E0 (tCons (tVar 4) tNil)) (tTupN (tCons (tC (.str "program")) (tCons (tC (.str "")) tNil))))) (tRet (tC (.bl false))) tNext))
  (tIfS (tTest (tOp (rNeG K) (tCallN s_looked (tCons (tVar 3) tNil)) (tVar 3))) (tRet (tC (.bl false))) tNext))))
  (tRet (tC (.bl true)))))
/-! ### the draws -/
theorem pen_ne {H : Hp} {pen L : Addr} {ns : List Int} {i j : Int} (hp : H pen = some (.lst [.ref L, .int i, .int j])) (hL : H L = some (.lst (ns.map V.int))) : L ≠ pen := by
  rintro rfl
  rw [hL] at hp
  have := congrArg (fun o => match o with | some (HO.lst (x :: _)) => (match x with | .ref _ => true | _ => false) | _ => false) hp
  cases ns <;> simp at this
/-- a pen: the script's list L, the turn, what is left of a great number -/
def PenAt (H : Hp) (pen L : Addr) : Prop := ∃ (ns : List Int) (at_ rest : Int), H pen = some (.lst [.ref L, .int at_, .int rest]) ∧ H L = some (.lst (ns.map V.int)) ∧ 0 ≤ at_ ∧ 0 ≤ rest ∧ ns.length ≤ 63
section
variable {H H' : Hp} {pen L d : Addr}
theorem PenAt.same (h : PenAt H pen L) (s : Same H H') : PenAt H' pen L := by
  obtain ⟨ns, a, r, hp, hL, x⟩ := h
  exact ⟨ns, a, r, s _ _ hp, s _ _ hL, x⟩
/-- a pen stays where another object changes -/
theorem PenAt.chg (h : PenAt H pen L) (c : Chg d H H') (n1 : pen ≠ d) (n2 : L ≠ d) : PenAt H' pen L := by
  obtain ⟨ns, a, r, hp, hL, x⟩ := h
  exact ⟨ns, a, r, c _ _ n1 hp, c _ _ n2 hL, x⟩
theorem PenAt.ne (h : PenAt H pen L) (hd : H d = none) : pen ≠ d ∧ L ≠ d := by
  obtain ⟨ns, a, r, hp, hL, x⟩ := h
  exact ⟨ne_of_none hp hd, ne_of_none hL hd⟩
end
def spDraw : Sp := fun vs H Q _ => ∃ (pen L : Addr) (many : Int), vs = [.ref pen, .int many] ∧ PenAt H pen L ∧ 0 < many ∧ many.natAbs < 2 ^ 250 ∧
  ∀ (v : Int) (H' : Hp), 0 ≤ v → v < many → PenAt H' pen L → Chg pen H H' → Q (.int v) H'
theorem g_draw {H : Hp} {Q : VK} {E : XK} {pen L : Addr} {many : Int} (h : PenAt H pen L) (h0 : 0 < many) (h1 : many.natAbs < 2 ^ 250) (q : ∀ (v : Int) (H' : Hp), 0 ≤ v → v < many → PenAt H' pen L → Chg pen H H' → Q (.int v) H') :
    spDraw ([.ref pen, .int many] ++ []) H Q E := ⟨pen, L, many, rfl, h, h0, h1, q⟩
theorem pure_draw {K : PySem.W.Frag} {w : World} : PureOk 2 spDraw (t_law_draw K w) 7 := by
  refine ⟨fun vs H Q E ⟨pen, L, many, e, _⟩ => by rw [e]; rfl, ?_⟩
  rintro vs H Q E ⟨pen, L, many, rfl, ⟨ns, at_, rest, hp, hL, h0, h1, hl⟩, hm, hmb, q'⟩
  have hne : L ≠ pen := pen_ne hp hL
  have q : ∀ (v a' r' : Int) (H' : Hp), 0 ≤ v → v < many → 0 ≤ a' → 0 ≤ r' → H' pen = some (.lst [.ref L, .int a', .int r']) → Chg pen H H' → Q (.int v) H' :=
    fun v a' r' H' v0 v1 a0 r0 e c => q' v H' v0 v1 ⟨ns, a', r', e, c L _ hne hL, a0, r0, hl⟩ c
  have hdw : ∀ x, CDivW x many := fun x => wide_div hm hmb (by decide) (by decide)
  have mod0 : ∀ x : Int, 0 ≤ x % many := fun x => Int.emod_nonneg x (Int.ne_of_gt hm)
  have mod1 : ∀ x : Int, x % many < many := fun x => Int.emod_lt_of_pos x hm
  show t_law_draw K w _ [some (.ref pen), some (.int many), none, none, none, none, none] H
  unfold t_law_draw
  walk_at "go"
  refine g_ite (fun hr => ?_) (fun _ => ?_)
  · walk_at "go"
    refine g_modI hm ?_
    walk_at "go"
    refine g_divI (hdw _) ?_
    walk_at "go"
    refine g_setL hp rfl fun H' e1 c1 => ?_
    walk_at "go"
    exact q _ at_ (rest / many) H' (mod0 _) (mod1 _) h0 (Int.ediv_nonneg h1 (Int.le_of_lt hm)) e1 c1
  · walk_at "go"
    refine g_setL hp rfl fun H1 e1 c1 => ?_
    have hL1 := c1 L _ hne hL
    walk_at "go"
    intro p H2 np e2 s2
    have hL2 := s2 _ _ hL1
    have hp2 := s2 _ _ e1
    walk_at "go"
    refine g_addL hL2 e2 (by show _ ≤ 16777216; simp; omega) fun p' H3 np' e3 s3 => ?_
    have hL3 := s3 _ _ hL2
    have hp3 := s3 _ _ hp2
    walk_at "go"
    refine g_lenL (.of hL3) ?_
    walk_at "go"
    refine g_modI (by omega) ?_
    have hat : ∃ c : Int, atI (List.map V.int ns ++ [V.int 7]) (at_ % max 1 ((List.map V.int ns).length : Int)) = some (.int c) := by
      have a0 := Int.emod_nonneg at_ (b := max 1 ((List.map V.int ns).length : Int)) (by omega)
      have a1 := Int.emod_lt_of_pos at_ (b := max 1 ((List.map V.int ns).length : Int)) (by omega)
      obtain ⟨v, h1, h2, _⟩ := atI_in (xs := List.map V.int ns ++ [V.int 7]) a0 (by rw [List.length_append, List.length_singleton]; omega)
      rw [List.mem_append, List.mem_map] at h2
      rcases h2 with ⟨c, _, rfl⟩ | h2
      · exact ⟨c, h1⟩
      · rw [List.mem_singleton] at h2
        exact ⟨7, h2 ▸ h1⟩
    obtain ⟨c, hc⟩ := hat
    refine g_ixL (.of e3) hc ?_
    walk_at "go"
    refine g_lenL (.of hL3) ?_
    walk_at "go"
    refine g_cut (B := ?B) ?f ?b
    case f =>
      intro tail
      refine g_ite (fun _ => ?_) (fun _ => ?_)
      · walk_at "go"
        refine g_powI ⟨by decide, by decide, by decide⟩ ?_
        walk_at "go"
        refine g_ite (fun hbig => ?_) (fun _ => ?_)
        · walk_at "go"
          refine g_divI (hdw _) ?_
          walk_at "go"
          refine g_setL hp3 rfl fun H4 e4 c4 => ?_
          walk_at "go"
          refine g_modI hm ?_
          exact q _ (at_ + 1) (c.natAbs / many) H4 (mod0 _) (mod1 _) (by omega) (Int.ediv_nonneg (by omega) (Int.le_of_lt hm)) e4 ((c1.trans (.same s2)).trans ((Chg.same s3).trans c4))
        · exact tail.out
      · refine g_F rfl ?_
        exact tail.out
    case b =>
      walk_at "go"
      intro p4 H4 np4 e4 s4
      walk_at "go"
      refine g_modI (by decide) ?_
      obtain ⟨pr, hpr, hmem⟩ : ∃ pr : Int, atI [V.int 2147483647, V.int 2147483629, V.int 2147483587, V.int 2147483579, V.int 2147483563, V.int 2147483549, V.int 2147483543] (at_ % 7) = some (.int pr) ∧ 0 < pr ∧ pr < 2 ^ 31 := by
        obtain ⟨v, h1, h2, _⟩ := atI_in (xs := [V.int 2147483647, V.int 2147483629, V.int 2147483587, V.int 2147483579, V.int 2147483563, V.int 2147483549, V.int 2147483543]) (Int.emod_nonneg at_ (by decide)) (Int.emod_lt_of_pos at_ (b := 7) (by decide))
        simp only [List.mem_cons, List.not_mem_nil, or_false] at h2
        rcases h2 with rfl | rfl | rfl | rfl | rfl | rfl | rfl <;> exact ⟨_, h1, by decide, by decide⟩
      refine g_ixL (.of e4) hpr ?_
      walk_at "go"
      refine g_modI (by decide) ?_
      walk_at "go"
      refine g_mulI (.inl ⟨by decide, by decide⟩) ?_
      walk_at "go"
      refine g_mulI (.inr ⟨by decide, by decide⟩) ?_
      walk_at "go"
      refine g_modI hmem.1 ?_
      have x0 := Int.emod_nonneg ((c % 2147483497 + 69621 * at_ + 13) * 48271) (Int.ne_of_gt hmem.1)
      have x1 := Int.emod_lt_of_pos ((c % 2147483497 + 69621 * at_ + 13) * 48271) hmem.1
      generalize (c % 2147483497 + 69621 * at_ + 13) * 48271 % pr = x at x0 x1
      walk_at "go"
      refine g_mulI (.inl ⟨by omega, by omega⟩) ?_
      walk_at "go"
      refine g_mulI (.inl ⟨by decide, by decide⟩) ?_
      walk_at "go"
      refine g_modI (by decide) ?_
      have y0 := Int.emod_nonneg (x * x + 40692 * x + at_) (b := 2147483489) (by decide)
      have y1 := Int.emod_lt_of_pos (x * x + 40692 * x + at_) (b := 2147483489) (by decide)
      generalize (x * x + 40692 * x + at_) % 2147483489 = y at y0 y1
      walk_at "go"
      refine g_mulI (.inl ⟨by omega, by omega⟩) ?_
      walk_at "go"
      refine g_modI (by decide) ?_
      have z0 := Int.emod_nonneg (y * 16807) (b := 2147483477) (by decide)
      have z1 := Int.emod_lt_of_pos (y * 16807) (b := 2147483477) (by decide)
      generalize y * 16807 % 2147483477 = z at z0 z1
      have fin : ∀ u : Int, Q (.int (u / 32 % many)) H4 := fun u =>
        q _ (at_ + 1) rest H4 (mod0 _) (mod1 _) (by omega) h1 (s4 _ _ hp3) ((c1.trans (.same s2)).trans ((Chg.same s3).trans (.same s4)))
      walk_at "go"
      refine g_powI ⟨by decide, by decide, by decide⟩ ?_
      walk_at "go"
      refine g_ite (fun _ => ?_) (fun _ => ?_)
      · walk_at "go"
        refine g_powI ⟨by decide, by decide, by omega⟩ ?_
        walk_at "go"
        refine g_divI ⟨by decide, by decide⟩ ?_
        walk_at "go"
        exact g_modI hm (fin _)
      · walk_at "go"
        refine g_divI ⟨by decide, by decide⟩ ?_
        walk_at "go"
        exact g_modI hm (fin _)


/-! ### names -/
open SX in
theorem letters_eq : (Str.ofString "abcdefghijklmnopqrstuvwxyz").cps.toList = (List.range 26).map (97 + ·) := by decide +kernel
theorem letter_at {i : Int} (h0 : 0 ≤ i) (h1 : i < 26) : atI (Str.ofString "abcdefghijklmnopqrstuvwxyz").cps.toList i = some (97 + i.toNat) := by
  refine atI_of h0 ?_
  rw [letters_eq, List.getElem?_map, List.getElem?_range (by omega)]
  rfl
theorem letters_len : (Str.ofString "abcdefghijklmnopqrstuvwxyz").length ≤ sizeLine := by
  show (Str.ofString "abcdefghijklmnopqrstuvwxyz").cps.size ≤ _
  rw [← Array.length_toList, letters_eq, List.length_map, List.length_range]
  show 26 ≤ 16777216
  omega
theorem sum_ones : ∀ cs : List Nat, ((cs.map fun c => SX.S [c]).map (·.length)).sum = cs.length
  | [] => rfl
  | c :: cs => by
    rw [List.map_cons, List.map_cons, List.sum_cons, sum_ones cs, SX.S_len, List.length_cons, List.length_cons, List.length_nil]
    omega
/-- the k-th name: the word with another letter at a place -/
def nameK (cs : List Nat) (at_ first by_ k : Nat) : Str := SX.S (cs.take at_ ++ [97 + (first + by_ * k) % 26] ++ cs.drop (at_ + 1))
theorem cutS_to (cs : List Nat) (n : Nat) (h : n ≤ cs.length) : cutS (SX.S cs) none (some (n : Int)) = SX.S (cs.take n) := by
  unfold cutS
  rw [HT.sIx_none, HT.sIx_nat, SX.S_len, Nat.min_eq_left h]
  rfl
theorem cutS_from (cs : List Nat) (n : Nat) (h : n ≤ cs.length) : cutS (SX.S cs) (some (n : Int)) none = SX.S (cs.drop n) := by
  unfold cutS
  rw [HT.sIx_none, HT.sIx_nat, SX.S_len, Nat.min_eq_left h]
  show SX.S ((cs.drop n).take (cs.length - n)) = _
  rw [List.take_of_length_le (by rw [List.length_drop]; omega)]
theorem nameK_is {cs : List Nat} {at_ first by_ k : Nat} (h : at_ < cs.length) (h8 : cs.length ≤ 8) (hc : ∀ c ∈ cs, 97 ≤ c ∧ c < 123) : isName (nameK cs at_ first by_ k) := by
  refine ⟨?_, ?_, ?_⟩
  · rw [nameK, SX.S_len]
    simp only [List.length_append, List.length_take, List.length_drop, List.length_singleton]
    omega
  · rw [nameK, SX.S_len]
    simp only [List.length_append, List.length_take, List.length_drop, List.length_singleton]
    omega
  · intro c hm
    have hm' : c ∈ cs.take at_ ++ [97 + (first + by_ * k) % 26] ++ cs.drop (at_ + 1) := hm
    simp only [List.mem_append, List.mem_singleton] at hm'
    rcases hm' with (hm' | rfl) | hm'
    · exact hc c (List.mem_of_mem_take hm')
    · omega
    · exact hc c (List.mem_of_mem_drop hm')
theorem nameK_inj {cs : List Nat} {at_ first by_ j k : Nat} (h : at_ < cs.length) (hb : by_ ∈ [1, 3, 5, 7, 9, 11]) (hj : j < 26) (hk : k < 26) (e : nameK cs at_ first by_ j = nameK cs at_ first by_ k) : j = k := by
  have e1 := SX.S_inj e
  rw [List.append_assoc, List.append_assoc] at e1
  have e2 := List.append_cancel_left e1
  simp only [List.singleton_append, List.cons.injEq, and_true] at e2
  simp only [List.mem_cons, List.not_mem_nil, or_false] at hb
  rcases hb with rfl | rfl | rfl | rfl | rfl | rfl <;> omega
def spNames : Sp := fun vs H Q _ => ∃ (pen L : Addr) (many : Int), vs = [.ref pen, .int many] ∧ PenAt H pen L ∧ 0 ≤ many ∧ many ≤ 26 ∧
  ∀ (d : Addr) (ss : List Str) (H' : Hp), (ss.length : Int) = many → (∀ s ∈ ss, isName s) → ss.Nodup → H d = none → H' d = some (.lst (ss.map V.str)) → PenAt H' pen L → Chg pen H H' → Q (.ref d) H'
theorem pure_names {K : PySem.W.Frag} {w : World} : PureOk 2 spNames (t_law_names K w spDraw) 8 := by
  refine ⟨fun vs H Q E ⟨pen, L, many, e, _⟩ => by rw [e]; rfl, ?_⟩
  rintro vs H Q E ⟨pen, L, many, rfl, hP, hm0, hm1, q⟩
  show t_law_names K w _ _ [some (.ref pen), some (.int many), none, none, none, none, none, none] H
  unfold t_law_names
  walk_at "go"
  refine g_draw hP (by decide) (by decide) fun n H1 n0 n1 hP1 c1 => ?_
  walk_at "go"
  refine g_isrng (by omega) (by omega) fun D hD => ?_
  refine lc_any (1 + n).toNat (fun i acc H' => ∃ cs : List Nat, acc = (cs.map fun c => SX.S [c]).map V.str ∧ cs.length = i ∧ (∀ c ∈ cs, 97 ≤ c ∧ c < 123) ∧ PenAt H' pen L ∧ Chg pen H1 H') hD
    (fun H' _ s => ⟨[], rfl, rfl, by simp, hP1.same s, .same s⟩) (fun i acc H' hi _ => hi) (fun acc H' _ => Nat.le_refl _) ?_ ?_
  · rintro i x acc H2 _ hi hl ⟨cs, rfl, hc, hcs, hP2, c2⟩ hd2 ⟨rfl, rfl⟩
    walk_at "go"
    refine ⟨rfl, ?_⟩
    walk_at "go"
    refine g_T rfl ?_
    walk_at "go"
    refine g_draw hP2 (by decide) (by decide) fun v H3 v0 v1 hP3 c3 => ?_
    refine g_ixS letters_len (letter_at v0 v1) ?_
    have hn := hP1.ne hD
    refine lc_step (c3 _ _ hn.1.symm hd2) hl (by show _ < 16777216; omega) fun H5 e5 c5 => ?_
    refine ⟨cs ++ [97 + v.toNat], by simp, by simp [hc], ?_, hP3.chg c5 hn.1 hn.2, ?_⟩
    · intro c hm
      rw [List.mem_append, List.mem_singleton] at hm
      rcases hm with hm | rfl
      · exact hcs c hm
      · omega
    · exact fun b o hb e => c5 b o (ne_of_none e hD) (c3 b o hb (c2 b o hb e))
  · rintro acc H2 hd2 ⟨cs, rfl, hc, hcs, hP2, c2⟩
    have hsum := sum_ones cs
    refine ⟨_, D, cs.map fun c => SX.S [c], rfl, rfl, .inl (.of hd2), ?_, ?_⟩
    · rw [hsum, List.length_map]
      show _ + _ * 0 ≤ _
      omega
    have ej : Txt.join (Str.ofString "") (cs.map fun c => SX.S [c]) = SX.S cs := by
      have e0 : Str.ofString "" = SX.S [] := by decide +kernel
      rw [e0, show (cs.map fun c => SX.S [c]) = (cs.map fun c => [c]).map SX.S from by rw [List.map_map]; rfl, SX.join_S]
      congr 1
      have : ∀ l : List Nat, TL.joinL [] (l.map fun c => [c]) = l := by
        intro l
        induction l with
        | nil => rfl
        | cons a l ih =>
          cases l with
          | nil => rfl
          | cons b l =>
            show [a] ++ ([] ++ TL.joinL [] ((b :: l).map fun c => [c])) = _
            rw [ih]
            rfl
      exact this cs
    rw [ej]
    walk_at "go"
    refine g_lenS (by rw [SX.S_len]; show _ ≤ 16777216; omega) ?_
    rw [SX.S_len]
    walk_at "go"
    refine g_draw (many := (cs.length : Int)) hP2 (by omega) (by omega) fun v H3 v0 v1 hP3 c3 => ?_
    walk_at "go"
    refine g_draw hP3 (by decide) (by decide) fun f H4 f0 f1 hP4 c4 => ?_
    walk_at "go"
    intro p H5 np e5 s5
    have hP5 := hP4.same s5
    walk_at "go"
    refine g_draw hP5 (by decide) (by decide) fun y H6 y0 y1 hP6 c6 => ?_
    obtain ⟨by_, hby, hbm⟩ : ∃ by_ : Nat, atI [V.int 1, V.int 3, V.int 5, V.int 7, V.int 9, V.int 11] y = some (.int by_) ∧ by_ ∈ [1, 3, 5, 7, 9, 11] := by
      obtain ⟨v, h1, h2, _⟩ := atI_in (xs := [V.int 1, V.int 3, V.int 5, V.int 7, V.int 9, V.int 11]) y0 y1
      simp only [List.mem_cons, List.not_mem_nil, or_false] at h2
      rcases h2 with rfl | rfl | rfl | rfl | rfl | rfl <;> first | exact ⟨1, h1, by decide⟩ | exact ⟨3, h1, by decide⟩ | exact ⟨5, h1, by decide⟩ | exact ⟨7, h1, by decide⟩ | exact ⟨9, h1, by decide⟩ | exact ⟨11, h1, by decide⟩
    have npen : p ≠ pen := fun e => (hP4.ne np).1 e.symm
    refine g_ixL (.of (c6 _ _ npen e5)) hby ?_
    walk_at "go"
    refine g_isrng (by omega) (by omega) fun D2 hD2 => ?_
    have hn2 := hP6.ne hD2
    have hlen : (SX.S cs).length ≤ sizeLine := by rw [SX.S_len]; show _ ≤ 16777216; omega
    refine lc_any many.toNat (fun i acc H' => acc = ((List.range i).map fun k => nameK cs v.toNat f.toNat by_ k).map V.str ∧ PenAt H' pen L ∧ Chg pen H6 H') hD2
      (fun H' _ s => ⟨rfl, hP6.same s, .same s⟩) (fun i acc H' hi _ => hi) (fun acc H' _ => Nat.le_refl _) ?_ ?_
    · rintro i x acc H7 _ hi hl ⟨rfl, hP7, c7⟩ hd7 ⟨rfl, rfl⟩
      walk_at "go"
      refine ⟨rfl, ?_⟩
      walk_at "go"
      refine g_T rfl ?_
      walk_at "go"
      refine g_slS hlen ?_
      walk_at "go"
      refine g_mulI (.inl ⟨by omega, by simp only [List.mem_cons, List.not_mem_nil, or_false] at hbm; omega⟩) ?_
      walk_at "go"
      refine g_modI (by decide) ?_
      refine g_ixS letters_len (letter_at (Int.emod_nonneg _ (by decide)) (Int.emod_lt_of_pos _ (by decide))) ?_
      refine g_addS (Nat.le_trans (Nat.add_le_add (cutS_length _ _ _) (Nat.le_refl _)) (by rw [SX.S_len]; show cs.length + 1 ≤ 16777216; omega)) ?_
      walk_at "go"
      refine g_slS hlen ?_
      have ek : (cutS (SX.S cs) none (some v) ++ (⟨#[97 + ((f + (by_ : Int) * (0 + (i : Int))) % 26).toNat]⟩ : Str)) ++ cutS (SX.S cs) (some (v + 1)) none = nameK cs v.toNat f.toNat by_ i := by
        have ev : v = (v.toNat : Int) := by omega
        have ev1 : v + 1 = ((v.toNat + 1 : Nat) : Int) := by omega
        rw [ev1, cutS_from _ _ (by omega)]
        rw [show cutS (SX.S cs) none (some v) = SX.S (cs.take v.toNat) from by rw (occs := .pos [1]) [ev]; exact cutS_to _ _ (by omega)]
        have e3 : ((f + (by_ : Int) * (0 + (i : Int))) % 26).toNat = (f.toNat + by_ * i) % 26 := by
          have : f + (by_ : Int) * (0 + (i : Int)) = ((f.toNat + by_ * i : Nat) : Int) := by
            rw [Int.natCast_add, Int.natCast_mul, Int.toNat_of_nonneg f0, Int.zero_add]
          rw [this]
          omega
        rw [e3]
        show SX.S _ ++ SX.S [_] ++ SX.S _ = _
        rw [SX.S_cat, SX.S_cat]
        rfl
      refine g_addS ?_ ?_
      · show (cutS (SX.S cs) none (some v) ++ _ : Str).length + (cutS (SX.S cs) (some (v + 1)) none).length ≤ 16777216
        have l1 := cutS_length (SX.S cs) none (some v)
        have l2 := cutS_length (SX.S cs) (some (v + 1)) none
        have l3 : ∀ a b : Str, (a ++ b).length = a.length + b.length := fun a b => by rw [← SX.S_tl a, ← SX.S_tl b, SX.S_cat, SX.S_len, SX.S_len, SX.S_len, List.length_append]
        have l0 := SX.S_len cs
        rw [l3]
        show _ + 1 + _ ≤ _
        omega
      · rw [ek]
        refine lc_step hd7 hl (by show _ < 16777216; omega) fun H8 e8 c8 => ?_
        exact ⟨by rw [List.range_succ]; simp, hP7.chg c8 hn2.1 hn2.2, fun b o hb e => c8 b o (ne_of_none e hD2) (c7 b o hb e)⟩
    · rintro acc H7 hd7 ⟨rfl, hP7, c7⟩
      have hfree : H D2 = none := by
        cases e : H D2 with
        | none => rfl
        | some o =>
          have : H6 D2 = some o := c6 _ _ hn2.1.symm (s5 _ _ (c4 _ _ hn2.1.symm (c3 _ _ hn2.1.symm (c2 _ _ hn2.1.symm (c1 _ _ hn2.1.symm e)))))
          rw [hD2] at this
          cases this
      refine q D2 _ H7 (by rw [List.length_map, List.length_range]; omega) ?_ ?_ hfree hd7 hP7 (fun b o hb e => c7 b o hb (c6 b o hb (s5 b o (c4 b o hb (c3 b o hb (c2 b o hb (c1 b o hb e)))))))
      · intro s hs
        obtain ⟨k, hk, rfl⟩ := List.mem_map.mp hs
        exact nameK_is (by omega) (by omega) hcs
      · refine List.pairwise_map.mpr (List.Pairwise.imp_of_mem ?_ List.nodup_range)
        intro a b ha hb ne e
        rw [List.mem_range] at ha hb
        exact ne (nameK_inj (by omega) hbm (by omega) (by omega) e)

/-! ### pens, numbers -/
def spPen (K : PySem.W.Frag) : Sp := fun vs H Q _ => ∃ (a : Addr) (ns : List Int), vs = [.ref a] ∧ SqL K H a (ns.map V.int) ∧ ns.length ≤ 63 ∧ ∀ (pen L : Addr) (H' : Hp), H pen = none → H L = none → PenAt H' pen L → Same H H' → Q (.ref pen) H'
theorem pure_pen {K : PySem.W.Frag} {w : World} : PureOk 1 (spPen K) (t_law_pen K w) 1 := by
  refine ⟨fun vs H Q E ⟨a, ns, e, _⟩ => by rw [e]; rfl, ?_⟩
  rintro vs H Q E ⟨a, ns, rfl, hS, hl, q⟩
  show t_law_pen K w _ [some (.ref a)] H
  unfold t_law_pen
  walk_at "go"
  refine g_slL hS fun p1 H1 n1 e1 s1 => ?_
  walk_at "go"
  refine g_listL (.of e1) fun p2 H2 n2 e2 s2 => ?_
  walk_at "go"
  intro p3 H3 n3 e3 s3
  have ec : cutV (ns.map V.int) none (some 63) = ns.map V.int := by
    unfold cutV
    rw [HT.sIx_none, show (63 : Int) = ((63 : Nat) : Int) from rfl, HT.sIx_nat, List.length_map, Nat.min_eq_right hl]
    show (ns.map V.int).take ns.length = _
    rw [List.take_of_length_le (by rw [List.length_map]; exact Nat.le_refl _)]
  rw [ec] at e2
  refine q p3 p2 H3 (s1.free (s2.free n3)) (s1.free n2) ⟨ns, 0, 0, e3, s3 _ _ e2, by decide, by decide, hl⟩ (s1.trans (s2.trans s3))

def spNumber : Sp := fun vs H Q _ => ∃ (pen L : Addr), vs = [.ref pen] ∧ PenAt H pen L ∧ ∀ (n : Int) (H' : Hp), n.natAbs < 10 ^ 60 → PenAt H' pen L → Chg pen H H' → Q (.int n) H'
theorem pure_number {K : PySem.W.Frag} {w : World} : PureOk 1 spNumber (t_law_number K w spDraw) 2 := by
  refine ⟨fun vs H Q E ⟨pen, L, e, _⟩ => by rw [e]; rfl, ?_⟩
  rintro vs H Q E ⟨pen, L, rfl, hP, q⟩
  show t_law_number K w spDraw _ [some (.ref pen), none] H
  unfold t_law_number
  walk_at "go"
  refine g_draw hP (by decide) (by decide) fun way H1 w0 w1 hP1 c1 => ?_
  walk_at "go"
  refine g_ite (fun _ => ?_) (fun h8 => ?_)
  · walk_at "go"
    refine g_powI ⟨by decide, by decide, by decide⟩ ?_
    refine g_mulI (.inl ⟨by decide, by decide⟩) ?_
    walk_at "go"
    refine g_draw hP1 (by decide) (by decide) fun v H2 v0 v1 hP2 c2 => ?_
    walk_at "go"
    refine g_powI ⟨by decide, by decide, by decide⟩ ?_
    walk_at "go"
    refine q _ H2 ?_ hP2 (c1.trans c2)
    have e60 : (10 : Int) ^ (Int.toNat 60) = 10 ^ 60 := rfl
    rw [e60] at v1 ⊢
    omega
  · walk_at "go"
    refine g_ite (fun _ => ?_) (fun h7 => ?_)
    · walk_at "go"
      refine g_powI ⟨by decide, by decide, by decide⟩ ?_
      refine g_mulI (.inl ⟨by decide, by decide⟩) ?_
      walk_at "go"
      refine g_draw hP1 (by decide) (by decide) fun v H2 v0 v1 hP2 c2 => ?_
      walk_at "go"
      refine g_powI ⟨by decide, by decide, by decide⟩ ?_
      walk_at "go"
      refine q _ H2 ?_ hP2 (c1.trans c2)
      have e31 : (10 : Int) ^ (Int.toNat 31) = 10 ^ 31 := rfl
      rw [e31] at v1 ⊢
      omega
    · walk_at "go"
      refine g_draw hP1 (by decide) (by decide) fun v H2 v0 v1 hP2 c2 => ?_
      walk_at "go"
      intro p H3 np e3 s3
      walk_at "go"
      have h8' := of_decide_eq_false h8
      have h7' := of_decide_eq_false h7
      obtain ⟨u, hu, hm, _⟩ := atI_in (xs := [V.int 0, V.int 0, V.int 0, V.int 1, V.int 2, V.int 4, V.int 0]) w0 (by show way < 7; omega)
      have hu' : ∃ z : Int, u = .int z ∧ 0 ≤ z ∧ z ≤ 4 := by
        simp only [List.mem_cons, List.not_mem_nil, or_false] at hm
        rcases hm with rfl | rfl | rfl | rfl | rfl | rfl | rfl <;> exact ⟨_, rfl, by decide, by decide⟩
      obtain ⟨z, rfl, z0, z1⟩ := hu'
      refine g_ixL (.of e3) hu ?_
      walk_at "go"
      exact q _ H3 (by omega) (hP2.same s3) (c1.trans (c2.trans (.same s3)))

/-! ### drawing parts: the state -/
/-- what may change while a part is drawn -/
structure Fix (pen left stock b : Addr) : Prop where
  p : b ≠ pen
  l : b ≠ left
  s : b ≠ stock
def Chg3 (pen left stock : Addr) (H H' : Hp) : Prop := ∀ b o, Fix pen left stock b → H b = some o → H' b = some o
structure RoomAt (H : Hp) (pen L left stock : Addr) (n : Int) (st : List Str) : Prop where
  pe : PenAt H pen L
  le : H left = some (.lst [.int n])
  sk : H stock = some (.lst (st.map V.str))
  lp : left ≠ pen
  lL : left ≠ L
  sp : stock ≠ pen
  sL : stock ≠ L
  ls : left ≠ stock
section
variable {H H' H1 : Hp} {pen L left stock b : Addr} {n : Int} {st : List Str}
theorem Chg3.refl : Chg3 pen left stock H H := fun _ _ _ e => e
theorem Chg3.trans (h : Chg3 pen left stock H H1) (h' : Chg3 pen left stock H1 H') : Chg3 pen left stock H H' := fun b o f e => h' b o f (h b o f e)
theorem Chg3.ofp (h : Chg pen H H') : Chg3 pen left stock H H' := fun b o f e => h b o f.p e
theorem Chg3.ofl (h : Chg left H H') : Chg3 pen left stock H H' := fun b o f e => h b o f.l e
theorem Chg3.ofs (h : Chg stock H H') : Chg3 pen left stock H H' := fun b o f e => h b o f.s e
theorem Chg3.same (h : Same H H') : Chg3 pen left stock H H' := fun b o _ e => h b o e
theorem RoomAt.new (r : RoomAt H pen L left stock n st) (hb : H b = none) : Fix pen left stock b :=
  ⟨fun e => (by obtain ⟨ns, a, x, hp, _⟩ := r.pe; rw [e, hp] at hb; cases hb), fun e => (by have := r.le; rw [← e, hb] at this; cases this), fun e => (by have := r.sk; rw [← e, hb] at this; cases this)⟩
theorem RoomAt.fixL (r : RoomAt H pen L left stock n st) : Fix pen left stock L :=
  ⟨fun e => by obtain ⟨ns, a, x, hp, hL, _⟩ := r.pe; exact pen_ne hp hL e, fun e => r.lL e.symm, fun e => r.sL e.symm⟩
theorem RoomAt.same (r : RoomAt H pen L left stock n st) (s : Same H H') : RoomAt H' pen L left stock n st :=
  ⟨r.pe.same s, s _ _ r.le, s _ _ r.sk, r.lp, r.lL, r.sp, r.sL, r.ls⟩
theorem RoomAt.draw (r : RoomAt H pen L left stock n st) (h : PenAt H' pen L) (c : Chg pen H H') : RoomAt H' pen L left stock n st :=
  ⟨h, c _ _ r.lp r.le, c _ _ r.sp r.sk, r.lp, r.lL, r.sp, r.sL, r.ls⟩
theorem RoomAt.setLeft {m : Int} (r : RoomAt H pen L left stock n st) (h : H' left = some (.lst [.int m])) (c : Chg left H H') : RoomAt H' pen L left stock m st :=
  ⟨r.pe.chg c r.lp.symm r.lL.symm, h, c _ _ r.ls.symm r.sk, r.lp, r.lL, r.sp, r.sL, r.ls⟩
theorem RoomAt.setStock {su : List Str} (r : RoomAt H pen L left stock n st) (h : H' stock = some (.lst (su.map V.str))) (c : Chg stock H H') : RoomAt H' pen L left stock n su :=
  ⟨r.pe.chg c r.sp.symm r.sL.symm, c _ _ r.ls r.le, h, r.lp, r.lL, r.sp, r.sL, r.ls⟩
/-- another object changes -/
theorem RoomAt.chg (r : RoomAt H pen L left stock n st) (c : Chg b H H') (f : Fix pen left stock b) (fL : L ≠ b) : RoomAt H' pen L left stock n st :=
  ⟨r.pe.chg c f.p.symm fL, c _ _ f.l.symm r.le, c _ _ f.s.symm r.sk, r.lp, r.lL, r.sp, r.sL, r.ls⟩
theorem RoomAt.tk {m : Int} {su : List Str} (r : RoomAt H pen L left stock n st) (c : Chg3 pen left stock H H') (r' : RoomAt H' pen L left stock m su) : Tk H H' := fun b xs e => c b _
  ⟨fun z => (by obtain ⟨ns, a, x, hp, _⟩ := r.pe; rw [z, hp] at e; cases e), fun z => (by rw [z, r.le] at e; cases e), fun z => (by rw [z, r.sk] at e; cases e)⟩ e
end
/-- the functions that a part may name, with how many things they want -/
def WorldAt (H : Hp) (world : Addr) (W : List (Str × Nat)) : Prop := ∃ xs, H world = some (.lst xs) ∧ Tps H xs (W.map fun q => .tuple [.str q.1, .int q.2])
def WorldOk (W : List (Str × Nat)) : Prop := W.length ≤ 8 ∧ ∀ q ∈ W, isName q.1 ∧ q.2 ≤ 4
theorem WorldAt.mono {H H' : Hp} {world : Addr} {W : List (Str × Nat)} (h : WorldAt H world W) (k : Tk H H') (c : ∀ o, H world = some o → H' world = some o) : WorldAt H' world W := by
  obtain ⟨xs, e, t⟩ := h
  exact ⟨xs, c _ e, t.mono k⟩
/-- all that a part's drawing leans on -/
structure GenAt (H : Hp) (pen L world scope left stock : Addr) (W : List (Str × Nat)) (sc : List Str) (n : Int) (st : List Str) : Prop where
  r : RoomAt H pen L left stock n st
  w : WorldAt H world W
  gsc : H scope = some (.lst (sc.map V.str))
  fw : Fix pen left stock world
  fs : Fix pen left stock scope
section
variable {H H' H1 : Hp} {pen L world scope left stock b : Addr} {W : List (Str × Nat)} {sc : List Str} {n : Int} {st : List Str}
theorem GenAt.same (g : GenAt H pen L world scope left stock W sc n st) (s : Same H H') : GenAt H' pen L world scope left stock W sc n st :=
  ⟨g.r.same s, g.w.mono (Same.tk s) (fun o e => s _ _ e), s _ _ g.gsc, g.fw, g.fs⟩
/-- behind anything that keeps all but the three -/
theorem GenAt.go {m : Int} {su : List Str} (g : GenAt H pen L world scope left stock W sc n st) (r' : RoomAt H' pen L left stock m su) (c : Chg3 pen left stock H H') : GenAt H' pen L world scope left stock W sc m su :=
  ⟨r', g.w.mono (g.r.tk c r') (fun o e => c _ _ g.fw e), c _ _ g.fs g.gsc, g.fw, g.fs⟩
theorem GenAt.draw (g : GenAt H pen L world scope left stock W sc n st) (h : PenAt H' pen L) (c : Chg pen H H') : GenAt H' pen L world scope left stock W sc n st :=
  g.go (g.r.draw h c) (.ofp c)
end
/-- the names that stand and may come: all unlike, few -/
structure NamesOk (sc st : List Str) : Prop where
  nsc : ∀ x ∈ sc, isName x
  nst : ∀ x ∈ st, isName x
  nd : st.Nodup
  few : sc.length + st.length ≤ 60
/-- what comes of a drawn part -/
structure PartOut (fs sc : List Str) (d : Nat) (n : Int) (st : List Str) (p : Part) (n' : Int) (st' : List Str) : Prop where
  ok : p.ok fs sc
  deep : p.deep ≤ d
  size : (p.size : Int) + n' ≤ 1 + n
  left : 0 ≤ n'
  names : ∃ u, st = st' ++ u ∧ p.rowNames.Nodup ∧ ∀ x ∈ p.rowNames, x ∈ u
/-! ### a leaf -/
theorem canLay_name {x : Str} (h : isName x) : PyData.canLay0 (.str x) = true := by
  rw [PyData.canLay0]
  unfold PyData.strOk
  rw [Array.all_eq_true]
  intro i hi
  have hm : x.cps[i] ∈ x.cps.toList := by simp
  have := h.2.2 _ hm
  exact decide_eq_true (by omega)
theorem shaped_list {ds : List PyData} {k : Nat} (h1 : ∀ d ∈ ds, PyData.canLay0 d = true) (h2 : ∀ d ∈ ds, PyData.depth d ≤ k) (hk : k ≤ 63) : SeqAt.shaped (.list ds) = true := by
  have a1 : ∀ ds : List PyData, (∀ d ∈ ds, PyData.canLay0 d = true) → PyData.canLayAll0 ds = true := by
    intro ds h
    induction ds with
    | nil => rfl
    | cons d ds ih => rw [PyData.canLayAll0, h d (by simp), ih fun e he => h e (by simp [he])]; rfl
  have a2 : ∀ ds : List PyData, (∀ d ∈ ds, PyData.depth d ≤ k) → PyData.depthAll ds ≤ k := by
    intro ds h
    induction ds with
    | nil => rw [PyData.depthAll]; omega
    | cons d ds ih =>
      have i1 := ih fun e he => h e (by simp [he])
      have i2 := h d (by simp)
      rw [PyData.depthAll]
      omega
  have a3 := a2 ds h2
  unfold SeqAt.shaped
  rw [show PyData.canLay0 (.list ds) = true from by rw [PyData.canLay0]; exact a1 ds h1, Bool.true_and, decide_eq_true_eq, PyData.depth]
  omega
theorem shaped_names {ss : List Str} (h : ∀ x ∈ ss, isName x) : SeqAt.shaped (.list (ss.map PyData.str)) = true :=
  shaped_list (k := 0) (fun d hd => by obtain ⟨x, hx, rfl⟩ := List.mem_map.mp hd; exact canLay_name (h x hx)) (fun d hd => by obtain ⟨x, hx, rfl⟩ := List.mem_map.mp hd; rw [PyData.depth]; omega) (by decide)
theorem shaped_world {W : List (Str × Nat)} (h : WorldOk W) : SeqAt.shaped (.list (W.map fun q => PyData.tuple [.str q.1, .int q.2])) = true :=
  shaped_list (k := 1) (fun d hd => by
      obtain ⟨x, hx, rfl⟩ := List.mem_map.mp hd
      simp only [PyData.canLay0, PyData.canLayAll0]
      have := canLay_name (h.2 x hx).1
      rw [PyData.canLay0] at this
      rw [this]; rfl)
    (fun d hd => by obtain ⟨x, hx, rfl⟩ := List.mem_map.mp hd; simp [PyData.depth, PyData.depthAll]) (by decide)
theorem shaped_nil : SeqAt.shaped (.list []) = true := shaped_names (ss := []) (by simp)
theorem eqv_nil {ds : List PyData} : PyData.eqv (.list ds) (.list []) = ds.isEmpty := by
  cases ds <;> rfl
def spLeaf : Sp := fun vs H Q _ => ∃ (pen L world scope left stock : Addr) (W : List (Str × Nat)) (sc : List Str) (n : Int) (st : List Str) (want : Str), vs = [.ref pen, .ref world, .ref scope, .str want] ∧
  GenAt H pen L world scope left stock W sc n st ∧ WorldOk W ∧ NamesOk sc st ∧ 0 ≤ n ∧
  ∀ (v : V) (p : Part) (H' : Hp), Tp H' v p.data → GenAt H' pen L world scope left stock W sc n st → PartOut (W.map (·.1)) sc 1 n st p n st → Chg3 pen left stock H H' → Q v H'
theorem tp_num {H : Hp} {a : Addr} {n : Int} (h : H a = some (.tup [.str "number", .int n])) : Tp H (.ref a) (Part.num n).data := .tup h (.cons (.str _) (.one (.int n)))
theorem tp_name {H : Hp} {a : Addr} {x : Str} (h : H a = some (.tup [.str "name", .str x])) : Tp H (.ref a) (Part.name x).data := .tup h (.cons (.str _) (.one (.str x)))
theorem tp_fn {H : Hp} {a : Addr} {x : Str} (h : H a = some (.tup [.str "fun", .str x])) : Tp H (.ref a) (Part.fn x).data := .tup h (.cons (.str _) (.one (.str x)))
theorem pure_leaf {K : PySem.W.Frag} {w : World} : PureOk 4 spLeaf (t_law_leaf K w spDraw spNumber) 5 := by
  refine ⟨fun vs H Q E ⟨_, _, _, _, _, _, _, _, _, _, _, e, _⟩ => by rw [e]; rfl, ?_⟩
  rintro vs H Q E ⟨pen, L, world, scope, left, stock, W, sc, n, st, want, rfl, g, hW, hN, hn, q⟩
  show t_law_leaf K w _ _ _ [some (.ref pen), some (.ref world), some (.ref scope), some (.str want), none] H
  unfold t_law_leaf
  walk_at "go"
  refine g_draw g.r.pe (by decide) (by decide) fun way H1 w0 w1 hP1 c1 => ?_
  have g1 := g.draw hP1 c1
  walk_at "go"
  intro a H2 na ea s2
  have g2 := g1.same s2
  have c2 : Chg3 pen left stock H H2 := Chg3.trans (.ofp c1) (.same s2)
  refine g_neD (.lst (.of g2.gsc) (Tps.dp (Tps.strs sc))) (.lst (.of ea) .nil) (shaped_names hN.nsc) shaped_nil ?_
  rw [eqv_nil]
  walk_at "go"
  have outN : ∀ p : Part, p.ok (W.map (·.1)) sc → p.deep = 1 → p.size = 1 → p.rowNames = [] → PartOut (W.map (·.1)) sc 1 n st p n st := fun p h1 h2 h3 h4 =>
    ⟨h1, by omega, by rw [h3]; omega, hn, [], by simp, by rw [h4]; exact List.nodup_nil, by rw [h4]; simp⟩
  refine g_cut (B := ?B) ?f ?b
  case f =>
    intro tail
    refine g_ite (fun hne => ?_) (fun _ => ?_)
    · walk_at "go"
      refine g_ite (fun _ => ?_) (fun _ => ?_)
      rotate_left
      · exact tail.out
      have hsc : 0 < sc.length := by
        cases sc with
        | nil => simp at hne
        | cons x l => simp
      walk_at "go"
      refine g_lenL (.of g2.gsc) ?_
      walk_at "go"
      refine g_draw g2.r.pe (by rw [List.length_map]; omega) (by rw [List.length_map]; have := hN.few; omega) fun v H3 v0 v1 hP3 c3 => ?_
      have g3 := g2.draw hP3 c3
      obtain ⟨u, h1, h2, _⟩ := atI_in (xs := sc.map V.str) v0 v1
      obtain ⟨x, hx, rfl⟩ := List.mem_map.mp h2
      refine g_ixL (.of g3.gsc) h1 ?_
      walk_at "go"
      intro p H4 np ep s4
      exact q _ (.name x) H4 (tp_name ep) (g3.same s4) (outN _ ⟨hx, hN.nsc x hx⟩ rfl rfl rfl) (c2.trans (.trans (.ofp c3) (.same s4)))
    · refine g_F rfl ?_
      exact tail.out
  case b =>
    walk_at "go"
    intro a4 H4 na4 ea4 s4
    have g4 := g2.same s4
    have c4 : Chg3 pen left stock H H4 := c2.trans (.same s4)
    obtain ⟨wx, hw, tw⟩ := g4.w
    refine g_neD (.lst (.of hw) (Tps.dp tw)) (.lst (.of ea4) .nil) (shaped_world hW) shaped_nil ?_
    rw [eqv_nil]
    walk_at "go"
    refine g_cut (B := ?B2) ?f2 ?b2
    case f2 =>
      intro tail
      refine g_ite (fun hne => ?_) (fun _ => ?_)
      · walk_at "go"
        refine g_ite (fun _ => ?_) (fun _ => ?_)
        · walk_at "go"
          refine g_ite (fun _ => ?_) (fun _ => ?_)
          rotate_left
          · exact tail.out
          have hl := tw.length
          rw [List.length_map] at hl
          have hWl : 0 < W.length := by
            cases W with
            | nil => simp at hne
            | cons x l => simp
          walk_at "go"
          refine g_lenL (.of hw) ?_
          walk_at "go"
          refine g_draw g4.r.pe (by omega) (by have := hW.1; omega) fun v H5 v0 v1 hP5 c5 => ?_
          have g5 := g4.draw hP5 c5
          obtain ⟨wx5, hw5, tw5⟩ := g5.w
          have ew : wx5 = wx := by
            have := c5 _ _ g.fw.p hw
            rw [hw5] at this
            cases this
            rfl
          subst ew
          obtain ⟨u, h1, _, h3⟩ := atI_in (xs := wx5) v0 v1
          obtain ⟨d, hd, tu⟩ := tw5.get h3
          rw [List.getElem?_map] at hd
          obtain ⟨⟨f, k⟩, hf, rfl⟩ := Option.map_eq_some_iff.mp hd
          have hfW := List.mem_of_getElem? hf
          refine g_ixL (.of hw5) h1 ?_
          cases tu with
          | tup et rt =>
            cases rt with
            | cons t1 _ =>
              cases t1
              refine g_ixT (.of et) (atI_of (by decide) rfl) ?_
              walk_at "go"
              intro p H6 np ep s6
              exact q _ (.fn f) H6 (tp_fn ep) (g5.same s6) (outN _ ⟨List.mem_map.mpr ⟨(f, k), hfW, rfl⟩, (hW.2 _ hfW).1⟩ rfl rfl rfl) (c4.trans (.trans (.ofp c5) (.same s6)))
        · refine g_F rfl ?_
          exact tail.out
      · refine g_F rfl ?_
        exact tail.out
    case b2 =>
      walk_at "go"
      refine ⟨pen, L, rfl, g4.r.pe, fun m H5 hm hP5 c5 => ?_⟩
      walk_at "go"
      intro p H6 np ep s6
      exact q _ (.num m) H6 (tp_num ep) ((g4.draw hP5 c5).same s6) (outN _ hm rfl rfl rfl) (c4.trans (.trans (.ofp c5) (.same s6)))

/-! ### names that are used up -/
def Used (st st' A : List Str) : Prop := ∃ u, st = st' ++ u ∧ A.Nodup ∧ ∀ x ∈ A, x ∈ u
section
variable {st st1 st2 A B : List Str}
theorem Used.refl : Used st st [] := ⟨[], by simp, List.nodup_nil, by simp⟩
theorem Used.app (h : Used st st1 A) (h2 : Used st1 st2 B) (nd : st.Nodup) : Used st st2 (A ++ B) := by
  obtain ⟨u, rfl, n1, s1⟩ := h
  obtain ⟨v, rfl, n2, s2⟩ := h2
  refine ⟨v ++ u, by simp, List.nodup_append.mpr ⟨n1, n2, fun a ha b hb e => ?_⟩, fun x hx => ?_⟩
  · subst e
    have h1 := s1 _ ha
    have h2 := s2 _ hb
    exact (List.nodup_append.mp nd).2.2 a (by simp [h2]) a h1 rfl
  · rcases List.mem_append.mp hx with h | h
    · exact List.mem_append.mpr (.inr (s1 x h))
    · exact List.mem_append.mpr (.inl (s2 x h))
theorem Used.swap (h : Used st st1 A) (h2 : Used st1 st2 B) (nd : st.Nodup) : Used st st2 (B ++ A) := by
  obtain ⟨u, e, n, s⟩ := h.app h2 nd
  refine ⟨u, e, ?_, fun x hx => s x (by rw [List.mem_append] at hx ⊢; exact hx.symm)⟩
  rw [List.nodup_append] at n ⊢
  exact ⟨n.2.1, n.1, fun a ha b hb e => n.2.2 b hb a ha e.symm⟩
theorem Used.left (h : Used st st1 A) : Used st st1 [] := by
  obtain ⟨u, e, _, _⟩ := h
  exact ⟨u, e, List.nodup_nil, by simp⟩
/-- the later ones are not used -/
theorem Used.fst (h : Used st st1 A) (h2 : Used st1 st2 B) : Used st st2 A := by
  obtain ⟨u, rfl, n1, s1⟩ := h
  obtain ⟨v, rfl, n2, s2⟩ := h2
  exact ⟨v ++ u, by simp, n1, fun x hx => List.mem_append.mpr (.inr (s1 x hx))⟩
theorem Used.snd (h : Used st st1 A) (h2 : Used st1 st2 B) : Used st st2 B := by
  obtain ⟨u, rfl, n1, s1⟩ := h
  obtain ⟨v, rfl, n2, s2⟩ := h2
  exact ⟨v ++ u, by simp, n2, fun x hx => List.mem_append.mpr (.inl (s2 x hx))⟩
theorem Used.len (h : Used st st1 A) : st1.length ≤ st.length := by
  obtain ⟨u, rfl, _, _⟩ := h
  rw [List.length_append]
  omega
theorem NamesOk.go {sc : List Str} (n : NamesOk sc st) (h : Used st st1 A) : NamesOk sc st1 := by
  obtain ⟨u, rfl, _, _⟩ := h
  exact ⟨n.nsc, fun x hx => n.nst x (List.mem_append.mpr (.inl hx)), (List.nodup_append.mp n.nd).1, by have := n.few; rw [List.length_append] at this; omega⟩
end
/-! ### room -/
def RoomL (H : Hp) (room left stock : Addr) (D : Int) : Prop := H room = some (.lst [.int D, .ref left, .ref stock])
def spFits : Sp := fun vs H Q _ => ∃ (pen L room left stock : Addr) (D n many : Int) (st : List Str), vs = [.ref room, .int many] ∧ RoomAt H pen L left stock n st ∧ RoomL H room left stock D ∧
  (n < many → Q (.bl false) H) ∧ (many ≤ n → ∀ H', RoomAt H' pen L left stock (n - many) st → Chg left H H' → Q (.bl true) H')
theorem pure_fits {K : PySem.W.Frag} {w : World} : PureOk 2 spFits (t_law_fits K w) 2 := by
  refine ⟨fun vs H Q E ⟨_, _, _, _, _, _, _, _, _, e, _⟩ => by rw [e]; rfl, ?_⟩
  rintro vs H Q E ⟨pen, L, room, left, stock, D, n, many, st, rfl, r, hr, q1, q2⟩
  show t_law_fits K w _ [some (.ref room), some (.int many)] H
  unfold t_law_fits
  unfold RoomL at hr
  have hl := r.le
  walk_at "go"
  refine g_ite (fun h => ?_) (fun h => ?_)
  · walk_at "go"
    exact q1 (of_decide_eq_true h)
  · walk_at "go"
    refine g_setL hl rfl fun H' e1 c1 => ?_
    walk_at "go"
    exact q2 (by have := of_decide_eq_false h; omega) H' (r.setLeft e1 c1) c1
/-! ### parts, calls, lets: what they lean on, what they tell -/
structure PartPre (H : Hp) (pen L world scope room left stock : Addr) (W : List (Str × Nat)) (sc : List Str) (D n : Int) (st : List Str) (want : Str) : Prop where
  g : GenAt H pen L world scope left stock W sc n st
  w : WorldOk W
  nm : NamesOk sc st
  n0 : 0 ≤ n
  rm : RoomL H room left stock D
  fr : Fix pen left stock room
  d0 : 0 ≤ D
  wt : want ∈ [("number" : Str), "pair", "any"]
def PartPost (H : Hp) (pen L world scope left stock : Addr) (W : List (Str × Nat)) (sc : List Str) (d : Nat) (n : Int) (st : List Str) (Q : VK) : Prop :=
  ∀ (v : V) (p : Part) (n' : Int) (st' : List Str) (H' : Hp), Tp H' v p.data → GenAt H' pen L world scope left stock W sc n' st' → PartOut (W.map (·.1)) sc d n st p n' st' → Chg3 pen left stock H H' → Q v H'
def spPart (m : Nat) : Sp := fun vs H Q _ => ∃ (pen L world scope room left stock : Addr) (W : List (Str × Nat)) (sc : List Str) (D n : Int) (st : List Str) (want : Str), vs = [.ref pen, .ref world, .ref scope, .ref room, .str want] ∧
  PartPre H pen L world scope room left stock W sc D n st want ∧ D.toNat < m ∧ PartPost H pen L world scope left stock W sc (D.toNat + 1) n st Q
/-- a let's, its room one less deep -/
def spLet (m : Nat) : Sp := fun vs H Q _ => ∃ (pen L world scope room left stock : Addr) (W : List (Str × Nat)) (sc : List Str) (D n : Int) (st : List Str) (want : Str), vs = [.ref pen, .ref world, .ref scope, .ref room, .str want] ∧
  PartPre H pen L world scope room left stock W sc D n st want ∧ D.toNat < m ∧ PartPost H pen L world scope left stock W sc (D.toNat + 2) n st Q
def spCallP (m : Nat) : Sp := fun vs H Q _ => ∃ (pen L world scope room left stock : Addr) (W : List (Str × Nat)) (sc : List Str) (D n : Int) (st : List Str) (want : Str), vs = [.ref pen, .ref world, .ref scope, .ref room, .str want] ∧
  PartPre H pen L world scope room left stock W sc D n st want ∧ D.toNat < m ∧ 5 ≤ D ∧ W ≠ [] ∧ PartPost H pen L world scope left stock W sc (D.toNat + 2) n st Q
theorem PartOut.leaf {fs sc : List Str} {d : Nat} {n n1 : Int} {st st' : List Str} {p : Part} (h : PartOut fs sc 1 n st p n1 st') (hd : 1 ≤ d) : PartOut fs sc d n st p n1 st' := ⟨h.ok, Nat.le_trans h.deep hd, h.size, h.left, h.names⟩
section
variable {H H' : Hp} {pen L world scope room left stock : Addr} {W : List (Str × Nat)} {sc : List Str} {D n : Int} {st : List Str} {want : Str}
theorem PartPre.leafArgs (h : PartPre H pen L world scope room left stock W sc D n st want) {d : Nat} {Q : VK} {E : XK} (hd : 1 ≤ d) (q : PartPost H pen L world scope left stock W sc d n st Q) :
    spLeaf ([.ref pen, .ref world, .ref scope, .str want] ++ []) H Q E := ⟨pen, L, world, scope, left, stock, W, sc, n, st, want, rfl, h.g, h.w, h.nm, h.n0, fun v p H' t g o c => q v p n st H' t g (o.leaf hd) c⟩
theorem PartPre.go {n' : Int} {st' A : List Str} (h : PartPre H pen L world scope room left stock W sc D n st want) (g : GenAt H' pen L world scope left stock W sc n' st') (c : Chg3 pen left stock H H') (u : Used st st' A) (h0 : 0 ≤ n') :
    PartPre H' pen L world scope room left stock W sc D n' st' want := ⟨g, h.w, h.nm.go u, h0, c _ _ h.fr h.rm, h.fr, h.d0, h.wt⟩
end
theorem pure_callp {K : PySem.W.Frag} {w : World} {m : Nat} : PureOk 5 (spCallP m) (t_law_call K w spDraw spFits spLeaf (spPart m)) 11 := by
  refine ⟨fun vs H Q E ⟨_, _, _, _, _, _, _, _, _, _, _, _, _, e, _⟩ => by rw [e]; rfl, ?_⟩
  rintro vs H Q E ⟨pen, L, world, scope, room, left, stock, W, sc, D, n, st, want, rfl, h, hD, hD5, hW0, q⟩
  show t_law_call K w _ _ _ _ _ [some (.ref pen), some (.ref world), some (.ref scope), some (.ref room), some (.str want), none, none, none, none, none, none] H
  unfold t_law_call
  walk_at "go"
  obtain ⟨wx, hw, tw⟩ := h.g.w
  have hl := tw.length
  rw [List.length_map] at hl
  have hWl : 0 < W.length := by
    cases W with
    | nil => exact absurd rfl hW0
    | cons x l => simp
  refine g_lenL (.of hw) ?_
  walk_at "go"
  refine g_draw h.g.r.pe (by omega) (by have := h.w.1; omega) fun v H1 v0 v1 hP1 c1 => ?_
  have g1 := h.g.draw hP1 c1
  have hw1 := c1 _ _ h.g.fw.p hw
  have tw1 := tw.mono (h.g.r.tk (.ofp c1) g1.r)
  obtain ⟨u, hu, _, hu3⟩ := atI_in (xs := wx) v0 v1
  obtain ⟨d, hd, tu⟩ := tw1.get hu3
  rw [List.getElem?_map] at hd
  obtain ⟨⟨f, k⟩, hf, rfl⟩ := Option.map_eq_some_iff.mp hd
  have hfW := List.mem_of_getElem? hf
  refine g_ixL (.of hw1) hu ?_
  cases tu with
  | tup et rt =>
  cases rt with
  | cons t1 rt =>
  cases t1
  cases rt with
  | cons t2 rt =>
  cases t2
  cases rt
  refine ⟨_, _, rfl, .of et, rfl, _, _, rfl, ?_⟩
  walk_at "go"
  refine ⟨_, _, rfl, ?_⟩
  walk_at "go"
  refine ⟨rfl, ?_⟩
  walk_at "go"
  intro a2 H2 na2 ea2 s2
  have g2 := g1.same s2
  walk_at "go"
  refine g_draw g2.r.pe (by decide) (by decide) fun y H3 y0 y1 hP3 c3 => ?_
  have g3 := g2.draw hP3 c3
  have c3' : Chg3 pen left stock H H3 := Chg3.trans (.ofp c1) (.trans (.same s2) (.ofp c3))
  obtain ⟨z, hz, hz1, hz2⟩ : ∃ z : Int, atI [V.int 0, V.int 0, V.int 0, V.int 0, V.int 0, V.int 0, V.int 1, V.int (-1)] y = some (.int z) ∧ -1 ≤ z ∧ z ≤ 1 := by
    obtain ⟨v, h1, h2, _⟩ := atI_in (xs := [V.int 0, V.int 0, V.int 0, V.int 0, V.int 0, V.int 0, V.int 1, V.int (-1)]) y0 y1
    simp only [List.mem_cons, List.not_mem_nil, or_false] at h2
    rcases h2 with rfl | rfl | rfl | rfl | rfl | rfl | rfl | rfl <;> exact ⟨_, h1, by decide, by decide⟩
  refine g_ixL (.of (c3 _ _ (g1.r.new na2).p ea2)) hz ?_
  walk_at "go"
  have hk : (k : Int) ≤ 4 := by have := (h.w.2 _ hfW).2; omega
  obtain ⟨many, hmany, hm0, hm5⟩ : ∃ many : Nat, max 0 ((k : Int) + z) = (many : Int) ∧ 0 ≤ many ∧ many ≤ 5 := ⟨(max 0 ((k : Int) + z)).toNat, by omega, by omega, by omega⟩
  rw [hmany]
  refine g_mulI (.inl ⟨by decide, by decide⟩) ?_
  walk_at "go"
  have hroom3 := c3' _ _ h.fr h.rm
  have pre3 : PartPre H3 pen L world scope room left stock W sc D n st want := h.go g3 c3' .refl h.n0
  refine ⟨pen, L, room, left, stock, D, n, 2 * (many : Int), st, rfl, g3.r, hroom3, fun _ => ?_, fun hfit H4 r4 c4 => ?_⟩
  · walk_at "go"
    refine g_T rfl ?_
    walk_at "go"
    exact pre3.leafArgs (by omega) fun v p n' st' H' t g o c => q v p n' st' H' t g o (c3'.trans c)
  · walk_at "go"
    refine g_F rfl ?_
    walk_at "go"
    intro a5 H5 na5 ea5 s5
    have g4 := g3.go r4 (.ofl c4)
    have c5 : Chg3 pen left stock H H5 := c3'.trans (.trans (.ofl c4) (.same s5))
    have g5 := g4.same s5
    have hroom5 := c5 _ _ h.fr h.rm
    unfold RoomL at hroom5
    walk_at "go"
    intro room2 H6 nr er s6
    have g6 := g5.same s6
    have c6 := c5.trans (.same s6)
    have fr2 := g5.r.new nr
    walk_at "go"
    refine g_isrng (by omega) (by omega) ?_
    refine for_any many (fun i σ H' => ∃ (x : Option V) (v : V) (p : Part) (n' : Int) (st' : List Str), σ = [some (.ref pen), some (.ref world), some (.ref scope), some (.ref room), some (.str want), some (.str f), some (.int k), some (.int many), some v, some (.ref room2), x] ∧
        Tp H' v p.data ∧ GenAt H' pen L world scope left stock W sc n' st' ∧ p.ok (W.map (·.1)) sc ∧ p.deep ≤ i + (D - many).toNat + 1 ∧ (p.size : Int) + n' ≤ 1 + (n - 2 * many) + 2 * i ∧ 0 ≤ n' ∧ Used st st' p.rowNames ∧ Chg3 pen left stock H6 H')
      ⟨none, .ref a5, .fn f, n - 2 * many, st, rfl, tp_fn (s6 _ _ ea5), g6, ⟨List.mem_map.mpr ⟨(f, k), hfW, rfl⟩, (h.w.2 _ hfW).1⟩, by show 1 ≤ _; omega, by show ((1 : Nat) : Int) + _ ≤ _; omega, by omega, .refl, .refl⟩
      (fun i σ H' hi _ => hi) (fun σ H' _ => Nat.le_refl _) ?_ ?_
    · rintro i x σ _ H7 hi ⟨x0, v, p, n', st', rfl, tv, g7, ok7, d7, z7, n7, u7, c7⟩ ⟨rfl, rfl⟩
      walk_at "go"
      intro a8 H8 na8 ea8 s8
      walk_at "go"
      have g8 := g7.same s8
      refine g_draw g8.r.pe (by decide) (by decide) fun y H9 y0 y1 hP9 c9 => ?_
      have g9 := g8.draw hP9 c9
      walk_at "go"
      refine g_divI ⟨by decide, by decide⟩ ?_
      obtain ⟨wt, hwt, hwm⟩ : ∃ wt : Str, atI [V.str "number", V.str "any"] (y / 2) = some (.str wt) ∧ wt ∈ [("number" : Str), "pair", "any"] := by
        obtain ⟨v, h1, h2, _⟩ := atI_in (xs := [V.str "number", V.str "any"]) (i := y / 2) (by omega) (by show y / 2 < 2; omega)
        simp only [List.mem_cons, List.not_mem_nil, or_false] at h2
        rcases h2 with rfl | rfl <;> exact ⟨_, h1, by simp⟩
      refine g_ixL (.of (c9 _ _ (g7.r.new na8).p ea8)) hwt ?_
      walk_at "go"
      have c9' : Chg3 pen left stock H7 H9 := .trans (.same s8) (.ofp c9)
      have hr9 : RoomL H9 room2 left stock (D - many) := c9' _ _ fr2 (c7 _ _ fr2 er)
      refine ⟨pen, L, world, scope, room2, left, stock, W, sc, D - many, n', st', wt, rfl, ⟨g9, h.w, h.nm.go u7, n7, hr9, fr2, by omega, hwm⟩, by omega, fun v2 p2 n2 st2 H10 t2 g10 o10 c10 => ?_⟩
      walk_at "go"
      intro a11 H11 na11 ea11 s11
      walk_at "go"
      have c10' := c9'.trans c10
      refine ⟨_, .ref a11, .two .give p p2, n2, st2, rfl, ?_, g10.same s11, ⟨ok7, o10.ok⟩, ?_, ?_, o10.left, u7.app o10.names h.nm.nd, c7.trans (c10'.trans (.same s11))⟩
      · have tv' := (tv.mono (g7.r.tk c10' g10.r)).mono (Same.tk s11)
        exact .tup ea11 (.cons (.str _) (.cons tv' (.one (t2.mono (Same.tk s11)))))
      · have := o10.deep
        show 1 + max _ _ ≤ _
        omega
      · have := o10.size
        show ((1 + (p.size + p2.size) : Nat) : Int) + _ ≤ _
        omega
    · rintro σ H7 ⟨x0, v, p, n', st', rfl, tv, g7, ok7, d7, z7, n7, u7, c7⟩
      walk_at "go"
      exact q v p n' st' H7 tv g7 ⟨ok7, by omega, by omega, n7, u7⟩ (c6.trans c7)

section
variable {H H' : Hp} {pen L world scope left stock d : Addr} {W : List (Str × Nat)} {sc : List Str} {n : Int} {st : List Str}
/-- another list changes -/
theorem GenAt.oth {ys : List V} (g : GenAt H pen L world scope left stock W sc n st) (c : Chg d H H') (f : Fix pen left stock d) (fL : L ≠ d) (fw : world ≠ d) (fs : scope ≠ d) (hl : H d = some (.lst ys)) : GenAt H' pen L world scope left stock W sc n st :=
  ⟨g.r.chg c f fL, g.w.mono (c.tkl hl) (fun o e => c _ _ fw e), c _ _ fs g.gsc, g.fw, g.fs⟩
/-- another scope -/
theorem GenAt.scp {scope2 : Addr} {sc2 : List Str} (g : GenAt H pen L world scope left stock W sc n st) (h : H scope2 = some (.lst (sc2.map V.str))) (f : Fix pen left stock scope2) : GenAt H pen L world scope2 left stock W sc2 n st :=
  ⟨g.r, g.w, h, g.fw, f⟩
theorem GenAt.free (g : GenAt H pen L world scope left stock W sc n st) (h : H d = none) : Fix pen left stock d ∧ L ≠ d ∧ world ≠ d ∧ scope ≠ d := by
  obtain ⟨xs, hw, _⟩ := g.w
  obtain ⟨ns, a, r, hp, hL, _⟩ := g.r.pe
  exact ⟨g.r.new h, ne_of_none hL h, ne_of_none hw h, ne_of_none g.gsc h⟩
end
theorem pure_letp {K : PySem.W.Frag} {w : World} {m : Nat} : PureOk 5 (spLet m) (t_law_let K w spDraw spFits spLeaf (spPart m)) 11 := by
  refine ⟨fun vs H Q E ⟨_, _, _, _, _, _, _, _, _, _, _, _, _, e, _⟩ => by rw [e]; rfl, ?_⟩
  rintro vs H Q E ⟨pen, L, world, scope, room, left, stock, W, sc, D, n, st, want, rfl, h, hD, q⟩
  show t_law_let K w _ _ _ _ _ [some (.ref pen), some (.ref world), some (.ref scope), some (.ref room), some (.str want), none, none, none, none, none, none] H
  unfold t_law_let
  walk_at "go"
  intro a1 H1 na1 ea1 s1
  have g1 := h.g.same s1
  walk_at "go"
  refine g_draw g1.r.pe (by decide) (by decide) fun y H2 y0 y1 hP2 c2 => ?_
  have g2 := g1.draw hP2 c2
  have c2' : Chg3 pen left stock H H2 := .trans (.same s1) (.ofp c2)
  obtain ⟨many, hmany, hm1, hm4⟩ : ∃ many : Nat, atI [V.int 1, V.int 1, V.int 2, V.int 1, V.int 2, V.int 3, V.int 4] y = some (.int many) ∧ 1 ≤ many ∧ many ≤ 4 := by
    obtain ⟨v, h1, h2, _⟩ := atI_in (xs := [V.int 1, V.int 1, V.int 2, V.int 1, V.int 2, V.int 3, V.int 4]) y0 y1
    simp only [List.mem_cons, List.not_mem_nil, or_false] at h2
    rcases h2 with rfl | rfl | rfl | rfl | rfl | rfl | rfl <;> first | exact ⟨1, h1, by decide, by decide⟩ | exact ⟨2, h1, by decide, by decide⟩ | exact ⟨3, h1, by decide, by decide⟩ | exact ⟨4, h1, by decide, by decide⟩
  refine g_ixL (.of (c2 _ _ (h.g.r.new na1).p ea1)) hmany ?_
  have pre2 : PartPre H2 pen L world scope room left stock W sc D n st want := h.go g2 c2' .refl h.n0
  have hroom2 := pre2.rm
  unfold RoomL at hroom2
  walk_at "go"
  refine g_lenL (.of g2.r.sk) ?_
  walk_at "go"
  have leafy : spLeaf ([.ref pen, .ref world, .ref scope, .str want] ++ []) H2 Q E0 := pre2.leafArgs (by omega) fun v p n' st' H' t g o c => q v p n' st' H' t g o (c2'.trans c)
  refine g_ite (fun _ => ?_) (fun hlen => ?_)
  · refine g_T rfl ?_
    walk_at "go"
    exact leafy
  have hlen' : many ≤ st.length := by have := of_decide_eq_false hlen; rw [List.length_map] at this; omega
  walk_at "go"
  refine ⟨pen, L, room, left, stock, D, n, (many : Int) + 1, st, rfl, g2.r, pre2.rm, fun _ => ?_, fun hfit H4 r4 c4 => ?_⟩
  · walk_at "go"
    refine g_T rfl ?_
    walk_at "go"
    exact leafy
  walk_at "go"
  refine g_F rfl ?_
  walk_at "go"
  have g4 := g2.go r4 (.ofl c4)
  have c4' : Chg3 pen left stock H H4 := c2'.trans (.ofl c4)
  have hroom4 : RoomL H4 room left stock D := c4' _ _ h.fr h.rm
  refine g_isrng (by omega) (by omega) fun dn hdn => ?_
  have fd := g4.free hdn
  refine lc_any many (fun i acc H' => ∃ ns st1 : List Str, acc = ns.map V.str ∧ ns.length = i ∧ st = st1 ++ ns.reverse ∧ GenAt H' pen L world scope left stock W sc (n - (many + 1)) st1 ∧ Chg3 pen left stock H4 H') hdn
    (fun H' _ s => ⟨[], st, rfl, rfl, by simp, g4.same s, .same s⟩) (fun i acc H' hi _ => hi) (fun acc H' _ => Nat.le_refl _) ?_ ?_
  · rintro i x acc _ H5 hi hl ⟨ns, st1, rfl, hns, hst, g5, c5⟩ hd5 ⟨rfl, rfl⟩
    walk_at "go"
    refine ⟨rfl, ?_⟩
    walk_at "go"
    refine g_T rfl ?_
    walk_at "go"
    have hroom5 := c5 _ _ h.fr hroom4
    unfold RoomL at hroom5
    walk_at "go"
    obtain ⟨su, x, rfl⟩ : ∃ su x, st1 = su ++ [x] := by
      have : st1 ≠ [] := by
        rintro rfl
        rw [hst, List.nil_append, List.length_reverse] at hlen'
        omega
      exact ⟨st1.dropLast, st1.getLast this, (List.dropLast_concat_getLast this).symm⟩
    have hk5 := g5.r.sk
    rw [List.map_append] at hk5
    refine g_tyl (.of hk5) ?_
    refine g_pop hk5 fun H6 e6 c6 => ?_
    have g6 := g5.go (g5.r.setStock e6 c6) (.ofs c6)
    refine lc_step (c6 _ _ fd.1.s hd5) hl (by show _ < 16777216; omega) fun H7 e7 c7 => ?_
    exact ⟨ns ++ [x], su, by simp, by simp [hns], by rw [hst, List.reverse_append]; simp, g6.oth c7 fd.1 fd.2.1 fd.2.2.1 fd.2.2.2 (c6 _ _ fd.1.s hd5), fun b o f e => c7 b o (ne_of_none e hdn) (c6 b o f.s (c5 b o f e))⟩
  rintro acc H5 hd5 ⟨ns, st1, rfl, hns, hst, g5, c5⟩
  have hsub : ∀ x ∈ ns, x ∈ st := fun x hx => by rw [hst, List.mem_append, List.mem_reverse]; exact .inr hx
  have nmns : ∀ x ∈ ns, isName x := fun x hx => h.nm.nst x (hsub x hx)
  have ndns : ns.Nodup := by
    have := h.nm.nd
    rw [hst] at this
    exact (List.pairwise_reverse.mp (List.nodup_append.mp this).2.1).imp fun h => h.symm
  have used1 : Used st st1 ns := ⟨ns.reverse, hst, ndns, fun x hx => List.mem_reverse.mpr hx⟩
  have nm1 : NamesOk (sc ++ ns) st1 := by
    have n1 := h.nm.go used1
    refine ⟨fun x hx => ?_, n1.nst, n1.nd, ?_⟩
    · rcases List.mem_append.mp hx with h' | h'
      · exact h.nm.nsc x h'
      · exact nmns x h'
    · have := h.nm.few
      rw [hst] at this
      simp only [List.length_append, List.length_reverse] at this ⊢
      omega
  walk_at "go"
  intro rw_ H6 nr er s6
  have g6 := g5.same s6
  have fr := g5.free nr
  have hd6 := s6 _ _ hd5
  have hrd : dn ≠ rw_ := ne_of_none hd5 nr
  have c6 : Chg3 pen left stock H4 H6 := c5.trans (.same s6)
  have hroom6 : RoomL H6 room left stock D := c6 _ _ h.fr hroom4
  have hrr : room ≠ rw_ := ne_of_none (show H5 room = some _ from c5 _ _ h.fr hroom4) nr
  walk_at "go"
  refine g_seqL ?_
  walk_at "go"
  refine g_isL (.of hd6) ?_
  refine for_any ns.length (fun i σ H' => ∃ (x y : Option V) (vs : List V) (r : Rows) (n' : Int) (st' : List Str), σ = [some (.ref pen), some (.ref world), some (.ref scope), some (.ref room), some (.str want), some (.int many), some (.ref dn), none, some (.ref rw_), x, y] ∧
      H' rw_ = some (.lst vs) ∧ H' dn = some (.lst (ns.map V.str)) ∧ Tps H' vs r.datas ∧ r.names = ns.take i ∧ GenAt H' pen L world scope left stock W sc n' st' ∧ r.ok (W.map (·.1)) (sc ++ ns) ∧ r.deep ≤ D.toNat + 1 ∧ (r.size : Int) + n' ≤ n - (many + 1) + i ∧ 0 ≤ n' ∧ Used st1 st' r.rowNames ∧
      vs.length = i ∧ (∀ b o, Fix pen left stock b → b ≠ rw_ → H6 b = some o → H' b = some o))
    ⟨none, none, [], .nil, n - (many + 1), st1, rfl, er, hd6, .nil, by simp [Rows.names], g6, trivial, by show 0 ≤ _; omega, by show ((0 : Nat) : Int) + _ ≤ _; omega, by omega, .refl, rfl, fun b o _ _ e => e⟩
    (fun i σ H' hi ⟨_, _, _, _, _, _, _, _, hd', _⟩ => ⟨_, _, .of hd', (List.getElem?_eq_getElem (by rw [List.length_map]; exact hi))⟩) (fun σ H' ⟨_, _, _, _, _, _, _, _, hd', _⟩ => ⟨_, .of hd', by rw [List.length_map]; exact Nat.le_refl _⟩) ?_ ?_
  · rintro i x σ _ H7 hi ⟨x9, x10, vs, r, n', st', rfl, hr7, hd7, tv, hnm, g7, ok7, d7, z7, n7, u7, hvl, c7⟩ ⟨rfl, hx⟩
    obtain ⟨nm, hnmi, rfl⟩ : ∃ nm, ns[i]? = some nm ∧ x = .str nm := by
      have h1 := hx _ (.of hd7)
      rw [List.getElem?_map] at h1
      obtain ⟨nm, h2, h3⟩ := Option.map_eq_some_iff.mp h1
      exact ⟨nm, h2, h3.symm⟩
    walk_at "go"
    intro a8 H8 na8 ea8 s8
    walk_at "go"
    have g8 := g7.same s8
    refine g_draw g8.r.pe (by decide) (by decide) fun y H9 y0 y1 hP9 c9 => ?_
    have g9 := g8.draw hP9 c9
    obtain ⟨kd, hkd, hkm⟩ : ∃ kd : Str, atI [V.str "number", V.str "pair", V.str "any"] y = some (.str kd) ∧ kd ∈ [("number" : Str), "pair", "any"] := by
      obtain ⟨v, h1, h2, _⟩ := atI_in (xs := [V.str "number", V.str "pair", V.str "any"]) y0 y1
      simp only [List.mem_cons, List.not_mem_nil, or_false] at h2
      rcases h2 with rfl | rfl | rfl <;> exact ⟨_, h1, by simp⟩
    refine g_ixL (.of (c9 _ _ (g7.r.new na8).p ea8)) hkd ?_
    have c9' : Chg3 pen left stock H7 H9 := .trans (.same s8) (.ofp c9)
    have hr9 := c9' _ _ fr.1 hr7
    have hd9 := c9' _ _ fd.1 hd7
    walk_at "go"
    refine g_tyl (.of hr9) ?_
    walk_at "go"
    refine g_addL g9.gsc hd9 (by rw [List.length_map, List.length_map]; show _ ≤ 16777216; have := h.nm.few; omega) fun sc2 H10 ns10 es10 s10 => ?_
    rw [← List.map_append] at es10
    have g10 := (g9.same s10).scp es10 (g9.free ns10).1
    have c10 : Chg3 pen left stock H7 H10 := c9'.trans (.same s10)
    walk_at "go"
    have hrm10 : RoomL H10 room left stock D := c10 _ _ h.fr (c7 _ _ h.fr hrr hroom6)
    refine ⟨pen, L, world, sc2, room, left, stock, W, sc ++ ns, D, n', st', kd, rfl, ⟨g10, h.w, nm1.go u7, n7, hrm10, h.fr, h.d0, hkm⟩, hD, fun v p n2 st2 H11 t11 g11 o11 c11 => ?_⟩
    walk_at "go"
    intro a12 H12 na12 ea12 s12
    walk_at "go"
    have c12 : Chg3 pen left stock H7 H12 := c10.trans (c11.trans (.same s12))
    have hr12 := c12 _ _ fr.1 hr7
    have hd12 := c12 _ _ fd.1 hd7
    have g12 := (g11.same s12).scp (c12 _ _ g7.fs g7.gsc) g7.fs
    refine g_append hr12 (by rw [hvl]; show _ < 16777216; omega) fun H13 e13 c13 => ?_
    walk_at "go"
    have k12 : Tk H7 H12 := (g7.r.tk c12 g12.r)
    have k13 : Tk H12 H13 := c13.tkl hr12
    refine ⟨_, _, vs ++ [.ref a12], r.app (.cons nm p .nil), n2, st2, rfl, e13, c13 _ _ hrd hd12, ?_, ?_, g12.oth c13 fr.1 fr.2.1 fr.2.2.1 fr.2.2.2 hr12, Rows.app_ok ok7 ⟨o11.ok, trivial⟩, ?_, ?_, o11.left, ?_, by simp [hvl], fun b o f hb e => c13 b o hb (c12 b o f (c7 b o f hb e))⟩
    · rw [Rows.app_datas]
      refine Tps.append ((tv.mono k12).mono k13) (.one ?_)
      exact .tup (k13 _ _ ea12) (.cons (.str _) (.one ((t11.mono (Same.tk s12)).mono k13)))
    · rw [Rows.app_names, hnm, List.take_add_one, hnmi]
      rfl
    · rw [Rows.app_deep]
      have := o11.deep
      show max _ (max _ 0) ≤ _
      omega
    · rw [Rows.app_size]
      have := o11.size
      show ((_ + (p.size + 0) : Nat) : Int) + _ ≤ _
      omega
    · rw [Rows.app_rowNames]
      have := u7.app o11.names nm1.nd
      show Used st1 st2 (_ ++ (p.rowNames ++ []))
      rw [List.append_nil]
      exact this
  rintro σ H7 ⟨x9, x10, vs, r, n', st', rfl, hr7, hd7, tv, hnm, g7, ok7, d7, z7, n7, u7, hvl, c7⟩
  rw [List.take_length] at hnm
  walk_at "go"
  refine g_tupleL (.of hr7) fun t H8 nt et s8 => ?_
  walk_at "go"
  have g8 := g7.same s8
  refine g_addL g8.gsc (s8 _ _ hd7) (by rw [List.length_map, List.length_map]; show _ ≤ 16777216; have := h.nm.few; omega) fun sc2 H10 ns10 es10 s10 => ?_
  rw [← List.map_append] at es10
  have g10 := (g8.same s10).scp es10 (g8.free ns10).1
  have s10' : Same H7 H10 := s8.trans s10
  walk_at "go"
  have hrm10 : RoomL H10 room left stock D := s10' _ _ (c7 _ _ h.fr hrr hroom6)
  refine ⟨pen, L, world, sc2, room, left, stock, W, sc ++ ns, D, n', st', want, rfl, ⟨g10, h.w, nm1.go u7, n7, hrm10, h.fr, h.d0, h.wt⟩, hD, fun v p n2 st2 H11 t11 g11 o11 c11 => ?_⟩
  walk_at "go"
  intro a12 H12 na12 ea12 s12
  have c12 : Chg3 pen left stock H7 H12 := .trans (.same s10') (c11.trans (.same s12))
  have g12 := (g11.same s12).scp (c12 _ _ g7.fs g7.gsc) g7.fs
  have k12 : Tk H7 H12 := (g7.r.tk c12 g12.r)
  have fs12 : ∀ b o, Fix pen left stock b → H b = some o → H12 b = some o := fun b o f e => c12 b o f (c7 b o f (ne_of_none (c5 b o f (c4' b o f e)) nr) (c6 b o f (c4' b o f e)))
  have hu := used1.app (u7.app o11.names nm1.nd) h.nm.nd
  refine q (.ref a12) (.letp r p) n2 st2 H12 ?_ g12 ⟨?_, ?_, ?_, o11.left, ?_⟩ fs12
  · refine .tup ea12 (.cons (.str _) (.cons (.tup ?_ (tv.mono k12)) (.one (t11.mono (Same.tk s12)))))
    have hN : Fix pen left stock t := g7.r.new nt
    exact s12 _ _ (c11 _ _ hN (s10 _ _ et))
  · refine ⟨by rw [hnm]; omega, by rw [hnm]; rintro rfl; rw [List.length_nil] at hns; omega, by rw [hnm]; exact nmns, by rw [hnm]; exact ok7, by rw [hnm]; exact o11.ok⟩
  · have := o11.deep
    show 1 + max _ _ ≤ _
    omega
  · have := o11.size
    show ((1 + (r.size + p.size) : Nat) : Int) + _ ≤ _
    omega
  · show Used st st2 (r.names ++ (r.rowNames ++ p.rowNames))
    rw [hnm]
    exact hu

/-! ### a part by its word -/
def kinds7 : List Str := ["op", "when", "side", "let", "call", "leaf", "pair"]
def words0 : List (Key × V) := mergeK [] [(.inr "number", .str "op op op op op op when when side let call call call call leaf leaf")]
def words1 : List (Key × V) := putK words0 (.inr "pair") (.str "pair pair pair pair when when side side let let call call call op leaf pair")
def words2 : List (Key × V) := putK words1 (.inr "any") (.str "op op pair pair pair when when side side let let call call call leaf leaf")
def wordsOf (x : Str) : Str := match valV words2 (Sum.inr x) with
  | some (.str s) => s
  | _ => ""
theorem words_at : ∀ x ∈ [("number" : Str), "pair", "any"], valV words2 (Sum.inr x) = some (.str (wordsOf x)) ∧ (Txt.split (wordsOf x) " ").length = 16 ∧ (wordsOf x).length + 2 ≤ 100 ∧ ∀ y ∈ Txt.split (wordsOf x) " ", y ∈ kinds7 := by decide +kernel
def kv4 : List (Key × V) := [(.inr "side", .int 1), (.inr "pair", .int 2), (.inr "when", .int 3), (.inr "op", .int 2)]
theorem pure_part {K : PySem.W.Frag} {w : World} {m : Nat} : PureOk 5 (spPart (m + 1)) (t_law_part K w spDraw spLeaf (spCallP m) (spLet m) spFits (spPart m)) 10 := by
  refine ⟨fun vs H Q E ⟨_, _, _, _, _, _, _, _, _, _, _, _, _, e, _⟩ => by rw [e]; rfl, ?_⟩
  rintro vs H Q E ⟨pen, L, world, scope, room, left, stock, W, sc, D, n, st, want, rfl, h, hD, q⟩
  show t_law_part K w _ _ _ _ _ _ _ [some (.ref pen), some (.ref world), some (.ref scope), some (.ref room), some (.str want), none, none, none, none, none] H
  unfold t_law_part
  walk_at "go"
  intro d1 H1 nd1 ed1 s1
  walk_at "go"
  refine g_pairs [(.inr "number", .str "op op op op op op when when side let call call call call leaf leaf")] ed1 rfl (by decide) fun H2 ed2 c2 => ?_
  walk_at "go"
  refine g_setK ed2 (k := .inr "pair") rfl (by decide +kernel) fun H3 ed3 c3 => ?_
  walk_at "go"
  refine g_setK ed3 (k := .inr "any") rfl (by decide +kernel) fun H4 ed4 c4 => ?_
  have s4 : Same H H4 := Same.chg (Same.chg (Same.chg s1 nd1 c2) nd1 c3) nd1 c4
  have g4 := h.g.same s4
  clear c4 c3 c2 ed3 ed2 ed1
  walk_at "go"
  obtain ⟨hw1, hw2, hw3, hw4⟩ := words_at want h.wt
  refine g_ixD ed4 (k := .inr want) rfl hw1 ?_
  walk_at "go"
  refine ⟨_, _, rfl, rfl, by decide +kernel, by show _ ≤ 16777216; omega, fun l5 H5 nl5 el5 s5 => ?_⟩
  walk_at "go"
  have g5 := g4.same s5
  refine g_draw g5.r.pe (by decide) (by decide) fun y H6 y0 y1 hP6 c6 => ?_
  have g6 := g5.draw hP6 c6
  obtain ⟨word, hword, hk⟩ : ∃ word : Str, atI ((Txt.split (wordsOf want) " ").map V.str) y = some (.str word) ∧ word ∈ kinds7 := by
    obtain ⟨v, h1, h2, _⟩ := atI_in (xs := (Txt.split (wordsOf want) " ").map V.str) y0 (by rw [List.length_map, hw2]; exact y1)
    obtain ⟨x, hx, rfl⟩ := List.mem_map.mp h2
    exact ⟨x, h1, hw4 x hx⟩
  refine g_ixL (.of (c6 _ _ (g4.free nl5).1.p el5)) hword ?_
  have c6' : Chg3 pen left stock H H6 := .trans (.same (s4.trans s5)) (.ofp c6)
  have hr6 : RoomL H6 room left stock D := c6' _ _ h.fr h.rm
  have hr6' := hr6
  unfold RoomL at hr6'
  clear hword y0 y1 el5 hw1 hw2 hw3 hw4 ed4
  walk_at "go"
  intro inner H7 ni ei s7
  have g7 := g6.same s7
  have fi := g6.free ni
  have c7 : Chg3 pen left stock H H7 := c6'.trans (.same s7)
  have pre7 : PartPre H7 pen L world scope room left stock W sc D n st want := h.go g7 c7 .refl h.n0
  have hr7' := s7 _ _ hr6'
  have leafy : ∀ {H8 : Hp}, GenAt H8 pen L world scope left stock W sc n st → Chg3 pen left stock H7 H8 → spLeaf ([.ref pen, .ref world, .ref scope, .str want] ++ []) H8 Q E0 := fun g8 c8 =>
    (pre7.go g8 c8 .refl h.n0).leafArgs (by omega) fun v p n' st' H' t g o c => q v p n' st' H' t g o (c7.trans (c8.trans c))
  walk_at "go"
  -- what is not drawn as a leaf at once
  by_cases hd0 : D < 1
  · refine g_T (decide_eq_true hd0) ?_
    refine g_T rfl ?_
    walk_at "go"
    exact leafy g7 .refl
  refine g_F (decide_eq_false hd0) ?_
  walk_at "go"
  by_cases hleaf : word = "leaf"
  · refine g_T (decide_eq_true hleaf) ?_
    refine g_T rfl ?_
    walk_at "go"
    exact leafy g7 .refl
  refine g_F (decide_eq_false hleaf) ?_
  walk_at "go"
  by_cases hcall : word = "call"
  · refine g_T (decide_eq_true hcall) ?_
    walk_at "go"
    intro l8 H8 nl8 el8 s8
    have g8 := g7.same s8
    obtain ⟨wx, hw, tw⟩ := g8.w
    refine g_eqD (.lst (.of hw) (Tps.dp tw)) (.lst (.of el8) .nil) (shaped_world h.w) shaped_nil ?_
    rw [eqv_nil]
    have hr8' := s8 _ _ hr7'
    walk_at "go"
    refine g_ite (fun _ => ?_) (fun hW => ?_)
    · refine g_T rfl ?_
      walk_at "go"
      exact leafy g8 (.same s8)
    walk_at "go"
    refine g_ite (fun _ => ?_) (fun h6 => ?_)
    · walk_at "go"
      exact leafy g8 (.same s8)
    walk_at "go"
    refine g_T (decide_eq_true hcall) ?_
    walk_at "go"
    have h6' := of_decide_eq_false h6
    have c8 : Chg3 pen left stock H H8 := c7.trans (.same s8)
    exact ⟨pen, L, world, scope, inner, left, stock, W, sc, D - 1, n, st, want, rfl, ⟨g8, h.w, h.nm, h.n0, s8 _ _ ei, fi.1, by omega, h.wt⟩, by omega, by omega, by rintro rfl; simp at hW, fun v p n' st' H' t g o c => q v p n' st' H' t g ⟨o.ok, by have := o.deep; omega, o.size, o.left, o.names⟩ (c8.trans c)⟩
  refine g_F (decide_eq_false hcall) ?_
  refine g_F rfl ?_
  have preI : ∀ {H8 : Hp} {n8 : Int} {st8 A : List Str} {want8 : Str}, GenAt H8 pen L world scope left stock W sc n8 st8 → Chg3 pen left stock H7 H8 → Used st st8 A → 0 ≤ n8 → want8 ∈ [("number" : Str), "pair", "any"] →
      PartPre H8 pen L world scope inner left stock W sc (D - 1) n8 st8 want8 := fun g8 c8 u8 h8 hw8 => ⟨g8, h.w, h.nm.go u8, h8, c8 _ _ fi.1 ei, fi.1, by omega, hw8⟩
  walk_at "go"
  refine g_F (decide_eq_false hcall) ?_
  walk_at "go"
  by_cases hlet : word = "let"
  · refine g_T (decide_eq_true hlet) ?_
    walk_at "go"
    exact ⟨pen, L, world, scope, inner, left, stock, W, sc, D - 1, n, st, want, rfl, preI g7 .refl .refl h.n0 h.wt, by omega, fun v p n' st' H' t g o c => q v p n' st' H' t g ⟨o.ok, by have := o.deep; omega, o.size, o.left, o.names⟩ (c7.trans c)⟩
  refine g_F (decide_eq_false hlet) ?_
  walk_at "go"
  have hk4 : word ∈ [("side" : Str), "pair", "when", "op"] := by
    simp only [kinds7, List.mem_cons, List.not_mem_nil, or_false] at hk ⊢
    rcases hk with h | h | h | h | h | h | h
    · exact .inr (.inr (.inr h))
    · exact .inr (.inr (.inl h))
    · exact .inl h
    · exact absurd h hlet
    · exact absurd h hcall
    · exact absurd h hleaf
    · exact .inr (.inl h)
  obtain ⟨many, hmany⟩ : ∃ many : Nat, valV (mergeK [] kv4) (Sum.inr word) = some (.int many) ∧ (word = "side" → many = 1) ∧ (word = "pair" → many = 2) ∧ (word = "when" → many = 3) ∧ (word = "op" → many = 2) := by
    simp only [List.mem_cons, List.not_mem_nil, or_false] at hk4
    rcases hk4 with rfl | rfl | rfl | rfl
    · exact ⟨1, by decide +kernel⟩
    · exact ⟨2, by decide +kernel⟩
    · exact ⟨3, by decide +kernel⟩
    · exact ⟨2, by decide +kernel⟩
  obtain ⟨hmany, hmside, hmpair, hmwhen, hmop⟩ := hmany
  intro d8 H8 nd8 ed8 s8
  walk_at "go"
  refine g_pairs kv4 ed8 rfl (by decide) fun H9 ed9 c9 => ?_
  have s9 : Same H7 H9 := Same.chg s8 nd8 c9
  have g9 := g7.same s9
  walk_at "go"
  refine g_ixD ed9 (k := .inr word) rfl hmany ?_
  walk_at "go"
  refine ⟨pen, L, room, left, stock, D, n, many, st, rfl, g9.r, s9 _ _ hr7', fun _ => ?_, fun hfit H10 r10 c10 => ?_⟩
  · walk_at "go"
    refine g_T rfl ?_
    walk_at "go"
    exact leafy g9 (.same s9)
  walk_at "go"
  refine g_F rfl ?_
  walk_at "go"
  have g10 := g9.go r10 (.ofl c10)
  have c10' : Chg3 pen left stock H7 H10 := .trans (.same s9) (.ofl c10)
  have hM : ∀ (v : V) (p : Part) (n' : Int) (st' : List Str) (H' : Hp), Tp H' v p.data → GenAt H' pen L world scope left stock W sc n' st' → p.ok (W.map (·.1)) sc → p.deep ≤ D.toNat + 1 → (p.size : Int) + n' ≤ 1 + n → 0 ≤ n' → Used st st' p.rowNames → Chg3 pen left stock H10 H' → Q v H' :=
    fun v p n' st' H' t g h1 h2 h3 h4 h5 c => q v p n' st' H' t g ⟨h1, h2, h3, h4, h5⟩ (c7.trans (c10'.trans c))
  by_cases hside : word = "side"
  · refine g_T (decide_eq_true hside) ?_
    walk_at "go"
    intro l11 H11 nl11 el11 s11
    walk_at "go"
    have g11 := g10.same s11
    refine g_draw g11.r.pe (by decide) (by decide) fun y H12 y0 y1 hP12 c12 => ?_
    have g12 := g11.draw hP12 c12
    obtain ⟨k1, hk1⟩ : ∃ k1 : K1, atI [V.str "left", V.str "right"] y = some (.str k1.word) := by
      obtain ⟨v, h1, h2, _⟩ := atI_in (xs := [V.str "left", V.str "right"]) y0 y1
      simp only [List.mem_cons, List.not_mem_nil, or_false] at h2
      rcases h2 with rfl | rfl
      · exact ⟨.left, h1⟩
      · exact ⟨.right, h1⟩
    refine g_ixL (.of (c12 _ _ (g10.free nl11).1.p el11)) hk1 ?_
    walk_at "go"
    have c12' : Chg3 pen left stock H10 H12 := .trans (.same s11) (.ofp c12)
    refine ⟨pen, L, world, scope, inner, left, stock, W, sc, D - 1, n - many, st, "pair", rfl, preI g12 (c10'.trans c12') .refl (by omega) (by simp), by omega, fun v p n' st' H13 t g o c => ?_⟩
    walk_at "go"
    intro a14 H14 na14 ea14 s14
    have := o.deep
    have := o.size
    have := hmside hside
    exact hM (.ref a14) (.one k1 p) n' st' H14 (.tup ea14 (.cons (.str _) (.one (t.mono (Same.tk s14))))) (g.same s14) o.ok (by show 1 + p.deep ≤ _; omega) (by show ((1 + p.size : Nat) : Int) + _ ≤ _; omega) o.left o.names (c12'.trans (c.trans (.same s14)))
  refine g_F (decide_eq_false hside) ?_
  walk_at "go"
  intro l11 H11 nl11 el11 s11
  have g11 := g10.same s11
  walk_at "go"
  obtain ⟨w1, hw1, hwm1⟩ : ∃ w1 : Str, atI [V.str "number", V.str "any"] (if decide (word = "pair") = true then 1 else 0) = some (.str w1) ∧ w1 ∈ [("number" : Str), "pair", "any"] := by
    split
    · exact ⟨"any", rfl, by simp⟩
    · exact ⟨"number", rfl, by simp⟩
  refine g_ixL (.of el11) hw1 ?_
  walk_at "go"
  have c11 : Chg3 pen left stock H10 H11 := .same s11
  refine ⟨pen, L, world, scope, inner, left, stock, W, sc, D - 1, n - many, st, w1, rfl, preI g11 (c10'.trans c11) .refl (by omega) hwm1, by omega, fun v1 p1 n1 st1 H12 t1 g12 o1 c12 => ?_⟩
  walk_at "go"
  intro d13 H13 nd13 ed13 s13
  walk_at "go"
  refine g_pairs [(.inr "pair", .str "any"), (.inr "when", .str want), (.inr "op", .str "number")] ed13 rfl (by show 3 ≤ 15; decide) fun H14 ed14 c14 => ?_
  have s14 : Same H12 H14 := Same.chg s13 nd13 c14
  have g14 := g12.same s14
  walk_at "go"
  obtain ⟨w2, hw2, hwm2⟩ : ∃ w2 : Str, valV (mergeK [] [(.inr "pair", .str "any"), (.inr "when", .str want), (.inr "op", .str "number")]) (Sum.inr word) = some (.str w2) ∧ w2 ∈ [("number" : Str), "pair", "any"] := by
    simp only [List.mem_cons, List.not_mem_nil, or_false] at hk4
    rcases hk4 with rfl | rfl | rfl | rfl
    · exact absurd rfl hside
    · exact ⟨"any", rfl, by simp⟩
    · exact ⟨want, rfl, h.wt⟩
    · exact ⟨"number", rfl, by simp⟩
  refine g_ixD ed14 (k := .inr word) rfl hw2 ?_
  walk_at "go"
  have c14' : Chg3 pen left stock H10 H14 := c11.trans (c12.trans (.same s14))
  refine ⟨pen, L, world, scope, inner, left, stock, W, sc, D - 1, n1, st1, w2, rfl, preI g14 (c10'.trans c14') o1.names o1.left hwm2, by omega, fun v2 p2 n2 st2 H15 t2 g15 o2 c15 => ?_⟩
  have t1' : Tp H15 v1 p1.data := (t1.mono (Same.tk s14)).mono (g14.r.tk c15 g15.r)
  have u2 := Used.app o1.names o2.names h.nm.nd
  have c15' : Chg3 pen left stock H10 H15 := c14'.trans c15
  have hd1 := o1.deep
  have hd2 := o2.deep
  have hz1 := o1.size
  have hz2 := o2.size
  walk_at "go"
  by_cases hpair : word = "pair"
  · refine g_T (decide_eq_true hpair) ?_
    walk_at "go"
    intro a16 H16 na16 ea16 s16
    have := hmpair hpair
    exact hM (.ref a16) (.two .pair p1 p2) n2 st2 H16 (.tup ea16 (.cons (.str _) (.cons (t1'.mono (Same.tk s16)) (.one (t2.mono (Same.tk s16)))))) (g15.same s16) ⟨o1.ok, o2.ok⟩ (by show 1 + max _ _ ≤ _; omega) (by show ((1 + (p1.size + p2.size) : Nat) : Int) + _ ≤ _; omega) o2.left u2 (c15'.trans (.same s16))
  refine g_F (decide_eq_false hpair) ?_
  walk_at "go"
  by_cases hwhen : word = "when"
  · refine g_T (decide_eq_true hwhen) ?_
    walk_at "go"
    refine ⟨pen, L, world, scope, inner, left, stock, W, sc, D - 1, n2, st2, want, rfl, preI g15 (c10'.trans c15') u2 o2.left h.wt, by omega, fun v3 p3 n3 st3 H16 t3 g16 o3 c16 => ?_⟩
    walk_at "go"
    intro a17 H17 na17 ea17 s17
    have k16 := g15.r.tk c16 g16.r
    have hd3 := o3.deep
    have hz3 := o3.size
    have := hmwhen hwhen
    have u3 := u2.app o3.names h.nm.nd
    rw [List.append_assoc] at u3
    exact hM (.ref a17) (.whn p1 p2 p3) n3 st3 H17 (.tup ea17 (.cons (.str _) (.cons ((t1'.mono k16).mono (Same.tk s17)) (.cons ((t2.mono k16).mono (Same.tk s17)) (.one (t3.mono (Same.tk s17))))))) (g16.same s17) ⟨o1.ok, o2.ok, o3.ok⟩ (by show 1 + max _ (max _ _) ≤ _; omega) (by show ((1 + (p1.size + (p2.size + p3.size)) : Nat) : Int) + _ ≤ _; omega) o3.left u3 (c15'.trans (c16.trans (.same s17)))
  refine g_F (decide_eq_false hwhen) ?_
  walk_at "go"
  have hop : word = "op" := by
    simp only [List.mem_cons, List.not_mem_nil, or_false] at hk4
    rcases hk4 with h | h | h | h
    · exact absurd h hside
    · exact absurd h hpair
    · exact absurd h hwhen
    · exact h
  intro l16 H16 nl16 el16 s16
  walk_at "go"
  have g16 := g15.same s16
  refine g_draw g16.r.pe (by decide) (by decide) fun y H17 y0 y1 hP17 c17 => ?_
  have g17 := g16.draw hP17 c17
  obtain ⟨k2, hk2⟩ : ∃ k2 : K2, atI [V.str "plus", V.str "less", V.str "times", V.str "below"] y = some (.str k2.word) := by
    obtain ⟨v, h1, h2, _⟩ := atI_in (xs := [V.str "plus", V.str "less", V.str "times", V.str "below"]) y0 y1
    simp only [List.mem_cons, List.not_mem_nil, or_false] at h2
    rcases h2 with rfl | rfl | rfl | rfl
    · exact ⟨.plus, h1⟩
    · exact ⟨.less, h1⟩
    · exact ⟨.times, h1⟩
    · exact ⟨.below, h1⟩
  refine g_ixL (.of (c17 _ _ (g15.free nl16).1.p el16)) hk2 ?_
  walk_at "go"
  intro a18 H18 na18 ea18 s18
  have c18 : Chg3 pen left stock H15 H17 := .trans (.same s16) (.ofp c17)
  have k17 := g15.r.tk c18 g17.r
  have := hmop hop
  exact hM (.ref a18) (.two k2 p1 p2) n2 st2 H18 (.tup ea18 (.cons (.str _) (.cons ((t1'.mono k17).mono (Same.tk s18)) (.one ((t2.mono k17).mono (Same.tk s18)))))) (g17.same s18) ⟨o1.ok, o2.ok⟩ (by show 1 + max _ _ ≤ _; omega) (by show ((1 + (p1.size + p2.size) : Nat) : Int) + _ ≤ _; omega) o2.left u2 (c15'.trans (c18.trans (.same s18)))

/-! ### a loop -/
theorem Part.size_pos : ∀ p : Part, 1 ≤ p.size
  | .num _ => Nat.le_refl _
  | .name _ => Nat.le_refl _
  | .fn _ => Nat.le_refl _
  | .one _ _ => Nat.le_add_right _ _
  | .two _ _ _ => Nat.le_add_right _ _
  | .whn _ _ _ => Nat.le_add_right _ _
  | .letp _ _ => Nat.le_add_right _ _
  | .shut _ => Nat.le_refl _
theorem cut_from {ss : List Str} (k : Nat) (h : k ≤ ss.length) : cutV (ss.map V.str) (some (k : Int)) none = (ss.drop k).map V.str := by
  unfold cutV
  rw [HT.sIx_none, HT.sIx_nat, List.length_map, Nat.min_eq_left h, ← List.map_drop, List.take_of_length_le (by rw [List.length_map, List.length_drop]; exact Nat.le_refl _)]
theorem cut_to {ss : List Str} (k : Nat) : cutV (ss.map V.str) none (some (k : Int)) = (ss.take k).map V.str := by
  unfold cutV
  rw [HT.sIx_none, HT.sIx_nat, List.length_map, Nat.sub_zero, List.drop_zero, ← List.map_take]
  by_cases h : k ≤ ss.length
  · rw [Nat.min_eq_left h]
  · rw [Nat.min_eq_right (by omega), List.take_of_length_le (Nat.le_refl _), List.take_of_length_le (by omega)]
structure LoopPre (H : Hp) (pen L world scope room left stock : Addr) (W : List (Str × Nat)) (me : Str) (sc : List Str) (n : Int) (st : List Str) : Prop where
  g : GenAt H pen L world scope left stock W sc n st
  w : WorldOk W
  nm : NamesOk sc st
  n0 : 0 ≤ n
  rm : ∃ D : Int, H room = some (.lst [.int D, .ref left, .ref stock])
  fr : Fix pen left stock room
  me : me ∈ W.map (·.1)
  sc0 : sc ≠ []
  sc4 : sc.length ≤ 4
def spLoop : Sp := fun vs H Q _ => ∃ (pen L world scope room left stock : Addr) (W : List (Str × Nat)) (me : Str) (sc : List Str) (n : Int) (st : List Str), vs = [.ref pen, .ref world, .str me, .ref scope, .ref room] ∧
  LoopPre H pen L world scope room left stock W me sc n st ∧
  ∀ (v : V) (p : Part) (n' : Int) (st' : List Str) (H' : Hp), Tp H' v p.data → GenAt H' pen L world scope left stock W sc n' st' → p.ok (W.map (·.1)) sc → p.deep ≤ 8 → (p.size : Int) + n' ≤ 16 + n → 0 ≤ n' → Used st st' p.rowNames → Chg3 pen left stock H H' → Q v H'
theorem pure_loop {K : PySem.W.Frag} {w : World} : PureOk 5 spLoop (t_law_loop K w (spPart 12) spDraw) 10 := by
  refine ⟨fun vs H Q E ⟨_, _, _, _, _, _, _, _, _, _, _, _, e, _⟩ => by rw [e]; rfl, ?_⟩
  rintro vs H Q E ⟨pen, L, world, scope, room, left, stock, W, me, sc, n, st, rfl, h, q⟩
  show t_law_loop K w _ _ _ [some (.ref pen), some (.ref world), some (.str me), some (.ref scope), some (.ref room), none, none, none, none, none] H
  unfold t_law_loop
  obtain ⟨D, hrm⟩ := h.rm
  obtain ⟨x0, sc', hsc⟩ : ∃ x0 sc', sc = x0 :: sc' := by
    have := h.sc0
    cases sc with
    | nil => exact absurd rfl this
    | cons a b => exact ⟨a, b, rfl⟩
  have hx0 : ∀ {H' : Hp}, H' scope = some (.lst (sc.map V.str)) → ∃ xs, SqL K H' scope xs ∧ atI xs 0 = some (.str x0) := fun e => ⟨_, .of e, atI_of (by decide) (by rw [hsc]; rfl)⟩
  have hx0m : x0 ∈ sc := by rw [hsc]; simp
  have okx0 : x0 ∈ sc ∧ isName x0 := ⟨hx0m, h.nm.nsc x0 hx0m⟩
  have hmeN : isName me := by
    obtain ⟨p, hp, e⟩ := List.mem_map.mp h.me
    rw [← e]
    exact (h.w.2 p hp).1
  walk_at "go"
  intro a1 H1 na1 ea1 s1
  walk_at "go"
  have g1 := h.g.same s1
  obtain ⟨_, q1, q2⟩ := hx0 g1.gsc
  refine g_ixL q1 q2 ?_
  walk_at "go"
  intro a2 H2 na2 ea2 s2
  walk_at "go"
  intro a3 H3 na3 ea3 s3
  walk_at "go"
  intro a4 H4 na4 ea4 s4
  walk_at "go"
  intro a5 H5 na5 ea5 s5
  walk_at "go"
  have g5 := (((g1.same s2).same s3).same s4).same s5
  have t1 : Tp H5 (.ref a5) (Part.two .give (.fn me) (.two .less (.name x0) (.num 1))).data := by
    have k : Tk H1 H5 := ((Same.tk s2).trans (Same.tk s3)).trans ((Same.tk s4).trans (Same.tk s5))
    have k2 : Tk H2 H5 := (Same.tk s3).trans ((Same.tk s4).trans (Same.tk s5))
    have k3 : Tk H3 H5 := (Same.tk s4).trans (Same.tk s5)
    have k4 : Tk H4 H5 := Same.tk s5
    refine .tup ea5 (.cons (.str _) (.cons ((tp_fn ea1).mono k) (.one ?_)))
    refine .tup (k4 _ _ ea4) (.cons (.str _) (.cons ((tp_name ea2).mono k2) (.one ((tp_num ea3).mono k3))))
  have s05 : Same H H5 := (s1.trans (s2.trans (s3.trans (s4.trans s5))))
  clear na1 na2 na3 na4 na5 ea1 ea2 ea3 ea4 ea5 s1 s2 s3 s4 s5 g1 q1 q2
  refine g_seqL ?_
  walk_at "go"
  refine g_slL (.of g5.gsc) fun ls H6 nl el s6 => ?_
  rw [show (some (1 : Int)) = some ((1 : Nat) : Int) from rfl, cut_from 1 (by rw [hsc]; simp)] at el
  refine g_isL (.of el) ?_
  have hlr : (sc.drop 1).length ≤ 3 := by rw [List.length_drop]; have := h.sc4; omega
  have c6 : Chg3 pen left stock H H6 := .same (s05.trans s6)
  have g6 := g5.same s6
  have fl := g5.r.new nl
  refine for_any (sc.drop 1).length (fun i σ H' => ∃ (x y : Option V) (v : V) (p : Part) (n' : Int) (st' : List Str), σ = [some (.ref pen), some (.ref world), some (.str me), some (.ref scope), some (.ref room), some v, x, y, none, none] ∧
      Tp H' v p.data ∧ GenAt H' pen L world scope left stock W sc n' st' ∧ p.ok (W.map (·.1)) sc ∧ p.deep ≤ 3 + i ∧ (p.size : Int) + n' ≤ 5 + n + 2 * i ∧ 0 ≤ n' ∧ Used st st' p.rowNames ∧ Chg3 pen left stock H6 H')
    ⟨none, none, .ref a5, _, n, st, rfl, t1.mono (Same.tk s6), g6, ⟨⟨h.me, hmeN⟩, okx0, by show (1 : Int).natAbs < _; decide⟩, by show 1 + max 1 (1 + max 1 1) ≤ _; omega, by show ((1 + (1 + (1 + (1 + 1))) : Nat) : Int) + _ ≤ _; omega, h.n0, .refl, .refl⟩
    (fun i σ H' hi ⟨_, _, _, _, _, _, _, _, _, _, _, _, _, _, c⟩ => ⟨_, _, .of (c _ _ fl el), List.getElem?_eq_getElem (by rw [List.length_map]; exact hi)⟩) (fun σ H' ⟨_, _, _, _, _, _, _, _, _, _, _, _, _, _, c⟩ => ⟨_, .of (c _ _ fl el), by rw [List.length_map]; exact Nat.le_refl _⟩) ?_ ?_
  · rintro i x σ _ H7 hi ⟨x6, x7, v, p, n', st', rfl, tv, g7, ok7, d7, z7, n7, u7, c7⟩ ⟨rfl, hx⟩
    obtain ⟨nm, hnmi, rfl⟩ : ∃ nm, nm ∈ sc.drop 1 ∧ x = .str nm := by
      have h1 := hx _ (.of (c7 _ _ fl el))
      rw [List.getElem?_map] at h1
      obtain ⟨nm, h2, h3⟩ := Option.map_eq_some_iff.mp h1
      exact ⟨nm, List.mem_of_getElem? h2, h3.symm⟩
    have hnms : nm ∈ sc := List.mem_of_mem_drop hnmi
    have hr7 := c7 _ _ h.fr (c6 _ _ h.fr hrm)
    walk_at "go"
    intro rm2 H8 nr er s8
    walk_at "go"
    have g8 := g7.same s8
    have fr2 := g7.r.new nr
    refine ⟨pen, L, world, scope, rm2, left, stock, W, sc, 2, n', st', "any", rfl, ⟨g8, h.w, h.nm.go u7, n7, er, fr2, by decide, by simp⟩, by decide, fun v2 p2 n2 st2 H9 t2 g9 o9 c9 => ?_⟩
    have c9' : Chg3 pen left stock H7 H9 := .trans (.same s8) c9
    have tv9 := tv.mono (g7.r.tk c9' g9.r)
    walk_at "go"
    intro a10 H10 na10 ea10 s10
    walk_at "go"
    intro l11 H11 nl11 el11 s11
    walk_at "go"
    have g11 := (g9.same s10).same s11
    refine g_draw g11.r.pe (by decide) (by decide) fun y H12 y0 y1 hP12 c12 => ?_
    have g12 := g11.draw hP12 c12
    have k12 : Tk H9 H12 := ((Same.tk s10).trans (Same.tk s11)).trans (g11.r.tk (.ofp c12) g12.r)
    have c12' : Chg3 pen left stock H7 H12 := c9'.trans (.trans (.same s10) (.trans (.same s11) (.ofp c12)))
    obtain ⟨v3, p3, hv3, tv3, ok3, d3, z3, u3⟩ : ∃ (v3 : V) (p3 : Part), atI [.ref a10, v2] y = some v3 ∧ Tp H12 v3 p3.data ∧ p3.ok (W.map (·.1)) sc ∧ p3.deep ≤ 3 ∧ (p3.size : Int) + n2 ≤ 1 + n' ∧ Used st' st2 p3.rowNames := by
      by_cases hy : y = 0
      · subst hy
        have := o9.size
        have := p2.size_pos
        refine ⟨.ref a10, .name nm, rfl, (tp_name ea10).mono ((Same.tk s11).trans (g11.r.tk (.ofp c12) g12.r)), ⟨hnms, h.nm.nsc _ hnms⟩, by show 1 ≤ 3; decide, by show ((1 : Nat) : Int) + _ ≤ _; omega, Used.left o9.names⟩
      · have hy1 : y = 1 := by omega
        subst hy1
        exact ⟨v2, p2, rfl, t2.mono k12, o9.ok, o9.deep, o9.size, o9.names⟩
    refine g_ixL (.of (c12 _ _ ((g9.same s10).r.new nl11).p el11)) hv3 ?_
    walk_at "go"
    intro a13 H13 na13 ea13 s13
    walk_at "go"
    refine ⟨_, _, .ref a13, .two .give p p3, n2, st2, rfl, ?_, g12.same s13, ⟨ok7, ok3⟩, ?_, ?_, o9.left, u7.app u3 h.nm.nd, c7.trans (c12'.trans (.same s13))⟩
    · exact .tup ea13 (.cons (.str _) (.cons ((tv9.mono k12).mono (Same.tk s13)) (.one (tv3.mono (Same.tk s13)))))
    · show 1 + max _ _ ≤ _
      omega
    · show ((1 + (p.size + p3.size) : Nat) : Int) + _ ≤ _
      omega
  rintro σ H7 ⟨x6, x7, v, p, n', st', rfl, tv, g7, ok7, d7, z7, n7, u7, c7⟩
  have hr7 := c7 _ _ h.fr (c6 _ _ h.fr hrm)
  walk_at "go"
  intro rm2 H8 nr er s8
  walk_at "go"
  have g8 := g7.same s8
  have fr2 := g7.r.new nr
  refine ⟨pen, L, world, scope, rm2, left, stock, W, sc, 3, n', st', "number", rfl, ⟨g8, h.w, h.nm.go u7, n7, er, fr2, by decide, by simp⟩, by decide, fun v2 p2 n2 st2 H9 t2 g9 o9 c9 => ?_⟩
  have c9' : Chg3 pen left stock H7 H9 := .trans (.same s8) c9
  have tv9 := tv.mono (g7.r.tk c9' g9.r)
  have hd2 : p2.deep ≤ 4 := o9.deep
  have hz2 := o9.size
  walk_at "go"
  intro a10 H10 na10 ea10 s10
  walk_at "go"
  intro a11 H11 na11 ea11 s11
  walk_at "go"
  intro a12 H12 na12 ea12 s12
  walk_at "go"
  intro l13 H13 nl13 el13 s13
  walk_at "go"
  have s913 : Same H9 H13 := s10.trans (s11.trans (s12.trans s13))
  have g13 := g9.same s913
  have g12 := g9.same (s10.trans (s11.trans s12))
  refine g_draw g13.r.pe (by decide) (by decide) fun y H14 y0 y1 hP14 c14 => ?_
  have g14 := g13.draw hP14 c14
  have k1314 := g13.r.tk (.ofp c14) g14.r
  have k14 : Tk H9 H14 := (Same.tk s913).trans k1314
  have c14' : Chg3 pen left stock H7 H14 := c9'.trans (.trans (.same s913) (.ofp c14))
  have tv14 := tv9.mono k14
  have t214 := t2.mono k14
  obtain ⟨v3, p3, hv3, tv3, ok3, d3, z3, u3⟩ : ∃ (v3 : V) (p3 : Part), atI [v, .ref a10, .ref a11, .ref a12] y = some v3 ∧ Tp H14 v3 p3.data ∧ p3.ok (W.map (·.1)) sc ∧ p3.deep ≤ 7 ∧ (p3.size : Int) + n2 ≤ 2 + (p.size : Int) + n' ∧ Used st st2 p3.rowNames := by
    have := p2.size_pos
    obtain rfl | rfl | rfl | rfl : y = 0 ∨ y = 1 ∨ y = 2 ∨ y = 3 := by omega
    · exact ⟨v, p, rfl, tv14, ok7, by omega, by omega, Used.fst u7 o9.names⟩
    · refine ⟨.ref a10, .two .plus p2 p, rfl, .tup (k1314 _ _ (s13 _ _ (s12 _ _ (s11 _ _ ea10)))) (.cons (.str _) (.cons t214 (.one tv14))), ⟨o9.ok, ok7⟩, by show 1 + max _ _ ≤ _; omega, by show ((1 + (p2.size + p.size) : Nat) : Int) + _ ≤ _; omega, Used.swap u7 o9.names h.nm.nd⟩
    · refine ⟨.ref a11, .two .pair p2 p, rfl, .tup (k1314 _ _ (s13 _ _ (s12 _ _ ea11))) (.cons (.str _) (.cons t214 (.one tv14))), ⟨o9.ok, ok7⟩, by show 1 + max _ _ ≤ _; omega, by show ((1 + (p2.size + p.size) : Nat) : Int) + _ ≤ _; omega, Used.swap u7 o9.names h.nm.nd⟩
    · refine ⟨.ref a12, .two .plus p p2, rfl, .tup (k1314 _ _ (s13 _ _ ea12)) (.cons (.str _) (.cons tv14 (.one t214))), ⟨ok7, o9.ok⟩, by show 1 + max _ _ ≤ _; omega, by show ((1 + (p.size + p2.size) : Nat) : Int) + _ ≤ _; omega, Used.app u7 o9.names h.nm.nd⟩
  refine g_ixL (.of (c14 _ _ (g12.r.new nl13).p el13)) hv3 ?_
  walk_at "go"
  obtain ⟨_, q1, q2⟩ := hx0 g14.gsc
  refine g_ixL q1 q2 ?_
  walk_at "go"
  intro a15 H15 na15 ea15 s15
  walk_at "go"
  have hr15 := s15 _ _ (c14' _ _ h.fr hr7)
  walk_at "go"
  intro rm3 H16 nr3 er3 s16
  walk_at "go"
  have g15 := g14.same s15
  have g16 := g15.same s16
  have fr3 := g15.r.new nr3
  have u9 : Used st st2 [] := Used.left u3
  refine ⟨pen, L, world, scope, rm3, left, stock, W, sc, 3, n2, st2, "number", rfl, ⟨g16, h.w, h.nm.go u9, o9.left, er3, fr3, by decide, by simp⟩, by decide, fun v4 p4 n4 st4 H17 t4 g17 o17 c17 => ?_⟩
  walk_at "go"
  intro a18 H18 na18 ea18 s18
  have c17' : Chg3 pen left stock H15 H17 := .trans (.same s16) c17
  have k17 := g15.r.tk c17' g17.r
  have hd4 : p4.deep ≤ 4 := o17.deep
  have hz4 := o17.size
  refine q (.ref a18) (.whn (.name x0) p3 p4) n4 st4 H18 ?_ (g17.same s18) ⟨okx0, ok3, o17.ok⟩ ?_ ?_ o17.left (show Used st st4 (p3.rowNames ++ p4.rowNames) from Used.app u3 o17.names h.nm.nd) (c6.trans (c7.trans (c14'.trans (.trans (.same s15) (c17'.trans (.same s18))))))
  · exact .tup ea18 (.cons (.str _) (.cons (((tp_name ea15).mono k17).mono (Same.tk s18)) (.cons (((tv3.mono (Same.tk s15)).mono k17).mono (Same.tk s18)) (.one (t4.mono (Same.tk s18))))))
  · show 1 + max 1 (max _ _) ≤ _
    omega
  · show ((1 + (1 + (p3.size + p4.size)) : Nat) : Int) + _ ≤ _
    omega

/-! ### a body -/
structure BodyAt (H : Hp) (pen L world scope stock : Addr) (W : List (Str × Nat)) (sc st : List Str) : Prop where
  pe : PenAt H pen L
  w : WorldAt H world W
  gsc : H scope = some (.lst (sc.map V.str))
  sk : H stock = some (.lst (st.map V.str))
  wp : world ≠ pen
  ws : world ≠ stock
  cp : scope ≠ pen
  cs : scope ≠ stock
  sp : stock ≠ pen
  sL : stock ≠ L
structure BodyOk (W : List (Str × Nat)) (me : Str) (sc st : List Str) : Prop where
  w : WorldOk W
  nm : NamesOk sc st
  me : me = "" ∨ me ∈ W.map (·.1)
  sc4 : sc.length ≤ 4
/-- all but the pen and the stock stay -/
def Chg2 (pen stock : Addr) (H H' : Hp) : Prop := ∀ b o, b ≠ pen → b ≠ stock → H b = some o → H' b = some o
section
variable {H H' H1 H2 : Hp} {pen L world scope stock l rm : Addr} {W : List (Str × Nat)} {me : Str} {sc st : List Str} {n D : Int}
theorem BodyAt.same (h : BodyAt H pen L world scope stock W sc st) (s : Same H H') : BodyAt H' pen L world scope stock W sc st :=
  ⟨h.pe.same s, h.w.mono (Same.tk s) (fun o e => s _ _ e), s _ _ h.gsc, s _ _ h.sk, h.wp, h.ws, h.cp, h.cs, h.sp, h.sL⟩
theorem PenAt.tk (h : PenAt H pen L) (c : Chg pen H H') : Tk H H' := by
  obtain ⟨ns, a, r, hp, _⟩ := h
  exact c.tkl hp
theorem BodyAt.draw (h : BodyAt H pen L world scope stock W sc st) (p : PenAt H' pen L) (c : Chg pen H H') : BodyAt H' pen L world scope stock W sc st :=
  ⟨p, h.w.mono (h.pe.tk c) (fun o e => c _ _ h.wp e), c _ _ h.cp h.gsc, c _ _ h.sp h.sk, h.wp, h.ws, h.cp, h.cs, h.sp, h.sL⟩
/-- with a list of what is left, a room -/
theorem BodyAt.gen (h : BodyAt H pen L world scope stock W sc st) (hl : H l = none) (el : H1 l = some (.lst [.int n])) (s1 : Same H H1) (s2 : Same H1 H2) : GenAt H2 pen L world scope l stock W sc n st := by
  have h1 := (h.same s1).same s2
  obtain ⟨ns, a, r, hp, hL, _⟩ := h.pe
  obtain ⟨xs, hw, _⟩ := h.w
  exact ⟨⟨h1.pe, s2 _ _ el, h1.sk, (ne_of_none hp hl).symm, (ne_of_none hL hl).symm, h.sp, h.sL, (ne_of_none h.sk hl).symm⟩, h1.w, h1.gsc, ⟨h.wp, ne_of_none hw hl, h.ws⟩, ⟨h.cp, ne_of_none h.gsc hl, h.cs⟩⟩
end
def spBody : Sp := fun vs H Q _ => ∃ (pen L world scope stock : Addr) (W : List (Str × Nat)) (me : Str) (sc st : List Str), vs = [.ref pen, .ref world, .str me, .ref scope, .ref stock] ∧ BodyAt H pen L world scope stock W sc st ∧ BodyOk W me sc st ∧
  ∀ (v : V) (p : Part) (H' : Hp), Tp H' v p.data → PenAt H' pen L → p.ok (W.map (·.1)) sc → p.deep ≤ 12 → p.size ≤ 60 → p.rowNames.Nodup → (∀ x ∈ p.rowNames, x ∈ st) → Chg2 pen stock H H' → Q v H'
theorem pure_body {K : PySem.W.Frag} {w : World} : PureOk 5 spBody (t_law_body K w spDraw spLoop (spPart 12)) 9 := by
  refine ⟨fun vs H Q E ⟨_, _, _, _, _, _, _, _, _, e, _⟩ => by rw [e]; rfl, ?_⟩
  rintro vs H Q E ⟨pen, L, world, scope, stock, W, me, sc, st, rfl, h, hO, q⟩
  show t_law_body K w _ _ _ _ [some (.ref pen), some (.ref world), some (.str me), some (.ref scope), some (.ref stock), none, none, none, none] H
  unfold t_law_body
  walk_at "go"
  intro l1 H1 nl1 el1 s1
  walk_at "go"
  have b1 := h.same s1
  refine g_draw b1.pe (by decide) (by decide) fun y H2 y0 y1 hP2 c2 => ?_
  obtain ⟨D, hD, hD0, hD1⟩ : ∃ D : Int, atI [V.int 2, V.int 7, V.int 9, V.int 11] y = some (.int D) ∧ 0 ≤ D ∧ D ≤ 11 := by
    obtain rfl | rfl | rfl | rfl : y = 0 ∨ y = 1 ∨ y = 2 ∨ y = 3 := by omega
    all_goals exact ⟨_, rfl, by decide, by decide⟩
  refine g_ixL (.of (c2 _ _ (h.pe.ne nl1).1.symm el1)) hD ?_
  have b2 := b1.draw hP2 c2
  walk_at "go"
  intro l3 H3 nl3 el3 s3
  walk_at "go"
  have b3 := b2.same s3
  refine g_draw b3.pe (by decide) (by decide) fun z H4 z0 z1 hP4 c4 => ?_
  obtain ⟨n, hn, hn0, hn1⟩ : ∃ n : Int, atI [V.int 2, V.int 7, V.int 14, V.int 24, V.int 40, V.int 59] z = some (.int n) ∧ 0 ≤ n ∧ n ≤ 59 := by
    obtain rfl | rfl | rfl | rfl | rfl | rfl : z = 0 ∨ z = 1 ∨ z = 2 ∨ z = 3 ∨ z = 4 ∨ z = 5 := by omega
    all_goals exact ⟨_, rfl, by decide, by decide⟩
  refine g_ixL (.of (c4 _ _ (b2.pe.ne nl3).1.symm el3)) hn ?_
  have b4 := b3.draw hP4 c4
  have c04 : Chg2 pen stock H H4 := fun b o n1 n2 e => c4 b o n1 (s3 b o (c2 b o n1 (s1 b o e)))
  -- the end that most ways have
  have fin : ∀ {H8 H9 H10 : Hp} {l rm : Addr}, BodyAt H8 pen L world scope stock W sc st → Chg2 pen stock H H8 → H8 l = none → H9 l = some (.lst [.int n]) → Same H8 H9 → H9 rm = none → H10 rm = some (.lst [.int D, .ref l, .ref stock]) → Same H9 H10 →
      spPart 12 ([.ref pen, .ref world, .ref scope, .ref rm, .str "any"] ++ []) H10 Q E0 := by
    intro H8 H9 H10 l rm b8 c8 hl el s9 hrm er s10
    have g10 := b8.gen hl el s9 s10
    have g9 := b8.gen hl el s9 (fun _ _ e => e)
    refine ⟨pen, L, world, scope, rm, l, stock, W, sc, D, n, st, "any", rfl, ⟨g10, hO.w, hO.nm, hn0, er, g9.r.new hrm, hD0, by simp⟩, by omega, fun v p n' st' H' t g o c => ?_⟩
    obtain ⟨u, hu, hu1, hu2⟩ := o.names
    have := o.deep
    have := o.size
    have := o.left
    exact q v p H' t g.r.pe o.ok (by omega) (by omega) hu1 (fun x hx => by rw [hu]; exact List.mem_append.mpr (.inr (hu2 x hx))) (fun b o n1 n2 e => c b o ⟨n1, ne_of_none (c8 b o n1 n2 e) hl, n2⟩ (s10 b o (s9 b o (c8 b o n1 n2 e))))
  clear hD hn z0 z1 y0 y1 c4 s3 c2 s1 el1 el3
  walk_at "go"
  by_cases hme : me = ""
  · -- what is asked
    subst hme
    refine g_F rfl ?_
    refine g_F rfl ?_
    walk_at "go"
    refine g_T rfl ?_
    walk_at "go"
    intro l5 H5 nl5 el5 s5
    have b5 := b4.same s5
    have c05 : Chg2 pen stock H H5 := fun b o n1 n2 e => s5 b o (c04 b o n1 n2 e)
    obtain ⟨wx, hw, tw⟩ := b5.w
    refine g_neD (.lst (.of hw) (Tps.dp tw)) (.lst (.of el5) .nil) (shaped_world hO.w) shaped_nil ?_
    rw [eqv_nil]
    walk_at "go"
    refine g_ite (fun hne => ?_) (fun _ => ?_)
    rotate_left
    · refine g_F rfl ?_
      walk_at "go"
      intro l H9 hl el s9
      walk_at "go"
      intro rm H10 hrm er s10
      walk_at "go"
      exact fin b5 c05 hl el s9 hrm er s10
    walk_at "go"
    refine g_draw b5.pe (by decide) (by decide) fun y H6 y0 y1 hP6 c6 => ?_
    have b6 := b5.draw hP6 c6
    have c06 : Chg2 pen stock H H6 := fun b o n1 n2 e => c6 b o n1 (c05 b o n1 n2 e)
    walk_at "go"
    refine g_ite (fun _ => ?_) (fun _ => ?_)
    rotate_left
    · walk_at "go"
      intro l H9 hl el s9
      walk_at "go"
      intro rm H10 hrm er s10
      walk_at "go"
      exact fin b6 c06 hl el s9 hrm er s10
    obtain ⟨f, k, W', hW⟩ : ∃ f k W', W = (f, k) :: W' := by
      cases W with
      | nil => simp at hne
      | cons x l => exact ⟨x.1, x.2, l, rfl⟩
    have hfW : (f, k) ∈ W := by rw [hW]; simp
    have first : ∀ {H' : Hp}, WorldAt H' world W → ∃ xs a, SqL K H' world xs ∧ atI xs 0 = some (.ref a) ∧ SqT K H' a [.str f, .int k] := by
      rintro H' ⟨xs, hx, tx⟩
      rw [hW] at tx
      cases tx with
      | cons t _ =>
        cases t with
        | tup et rt =>
          cases rt with
          | cons t1 rt =>
          cases t1
          cases rt with
          | cons t2 rt =>
          cases t2
          cases rt
          exact ⟨_, _, .of hx, atI_of (by decide) rfl, .of et⟩
    walk_at "go"
    obtain ⟨_, _, i1, i2, i3⟩ := first b6.w
    refine g_ixL i1 i2 ?_
    walk_at "go"
    refine g_ixT i3 (atI_of (by decide) rfl) ?_
    walk_at "go"
    intro a7 H7 na7 ea7 s7
    walk_at "go"
    have b7 := b6.same s7
    obtain ⟨_, _, j1, j2, j3⟩ := first b7.w
    refine g_ixL j1 j2 ?_
    walk_at "go"
    refine g_ixT j3 (atI_of (by decide) rfl) ?_
    walk_at "go"
    have hk : k ≤ 4 := (hO.w.2 _ hfW).2
    refine g_isrng (by omega) (by omega) ?_
    refine for_any k (fun i σ H' => ∃ (x : Option V) (v : V) (p : Part), σ = [some (.ref pen), some (.ref world), some (.str ""), some (.ref scope), some (.ref stock), some (.int D), some (.int n), some v, x] ∧
        Tp H' v p.data ∧ PenAt H' pen L ∧ p.ok (W.map (·.1)) sc ∧ p.deep ≤ 1 + i ∧ p.size ≤ 1 + 2 * i ∧ p.rowNames = [] ∧ Chg2 pen stock H7 H')
      ⟨none, _, .fn f, rfl, tp_fn ea7, b7.pe, ⟨List.mem_map.mpr ⟨_, hfW, rfl⟩, (hO.w.2 _ hfW).1⟩, by show 1 ≤ _; omega, by show 1 ≤ _; omega, rfl, fun b o _ _ e => e⟩
      (fun i σ H' hi _ => (by show (i : Nat) < _; omega)) (fun σ H' _ => (by show _ ≤ (k : Nat); omega)) ?_ ?_
    · rintro i x σ _ H8 hi ⟨x8, v, p, rfl, tv, hP8, ok8, d8, z8, r8, c8⟩ ⟨rfl, rfl⟩
      walk_at "go"
      refine g_draw hP8 (by decide) (by decide) fun y H9 y0 y1 hP9 c9 => ?_
      walk_at "go"
      intro a10 H10 na10 ea10 s10
      walk_at "go"
      intro a11 H11 na11 ea11 s11
      walk_at "go"
      refine ⟨_, _, .two .give p (.num y), rfl, ?_, (hP9.same s10).same s11, ⟨ok8, by show y.natAbs < 10 ^ 60; omega⟩, ?_, ?_, ?_, fun b o n1 n2 e => s11 b o (s10 b o (c9 b o n1 (c8 b o n1 n2 e)))⟩
      · exact .tup ea11 (.cons (.str _) (.cons (((tv.mono (hP8.tk c9)).mono (Same.tk s10)).mono (Same.tk s11)) (.one ((tp_num ea10).mono (Same.tk s11)))))
      · show 1 + max _ 1 ≤ _
        omega
      · show 1 + (_ + 1) ≤ _
        omega
      · show p.rowNames ++ [] = []
        rw [r8]
        rfl
    · rintro σ H8 ⟨x8, v, p, rfl, tv, hP8, ok8, d8, z8, r8, c8⟩
      walk_at "go"
      exact q v p H8 tv hP8 ok8 (by omega) (by omega) (by rw [r8]; exact List.nodup_nil) (by rw [r8]; simp) (fun b o n1 n2 e => c8 b o n1 n2 (s7 b o (c06 b o n1 n2 e)))
  · -- a function's
    refine g_T (by rw [decide_eq_false hme]; rfl) ?_
    walk_at "go"
    intro l5 H5 nl5 el5 s5
    have b5 := b4.same s5
    have c05 : Chg2 pen stock H H5 := fun b o n1 n2 e => s5 b o (c04 b o n1 n2 e)
    refine g_neD (.lst (.of b5.gsc) (Tps.dp (Tps.strs sc))) (.lst (.of el5) .nil) (shaped_names hO.nm.nsc) shaped_nil ?_
    rw [eqv_nil]
    walk_at "go"
    have meW : me ∈ W.map (·.1) := hO.me.elim (fun e => absurd e hme) id
    refine g_ite (fun hne => ?_) (fun _ => ?_)
    rotate_left
    · refine g_F rfl ?_
      walk_at "go"
      refine g_F (decide_eq_false hme) ?_
      refine g_F rfl ?_
      walk_at "go"
      intro l H9 hl el s9
      walk_at "go"
      intro rm H10 hrm er s10
      walk_at "go"
      exact fin b5 c05 hl el s9 hrm er s10
    walk_at "go"
    refine g_draw b5.pe (by decide) (by decide) fun y H6 y0 y1 hP6 c6 => ?_
    have b6 := b5.draw hP6 c6
    have c06 : Chg2 pen stock H H6 := fun b o n1 n2 e => c6 b o n1 (c05 b o n1 n2 e)
    walk_at "go"
    refine g_ite (fun _ => ?_) (fun _ => ?_)
    rotate_left
    · walk_at "go"
      refine g_F (decide_eq_false hme) ?_
      refine g_F rfl ?_
      walk_at "go"
      intro l H9 hl el s9
      walk_at "go"
      intro rm H10 hrm er s10
      walk_at "go"
      exact fin b6 c06 hl el s9 hrm er s10
    walk_at "go"
    intro l H9 hl el s9
    walk_at "go"
    intro rm H10 hrm er s10
    walk_at "go"
    have g10 := b6.gen hl el s9 s10
    have g9 := b6.gen hl el s9 (fun _ _ e => e)
    refine ⟨pen, L, world, scope, rm, l, stock, W, me, sc, min n 40, st, rfl, ⟨g10, hO.w, hO.nm, by omega, ⟨D, er⟩, g9.r.new hrm, meW, by rintro rfl; simp at hne, hO.sc4⟩, fun v p n' st' H' t g ok d z n0 u c => ?_⟩
    obtain ⟨u1, hu, hu1, hu2⟩ := u
    exact q v p H' t g.r.pe ok (by omega) (by omega) hu1 (fun x hx => by rw [hu]; exact List.mem_append.mpr (.inr (hu2 x hx))) (fun b o n1 n2 e => c b o ⟨n1, ne_of_none (c06 b o n1 n2 e) hl, n2⟩ (s10 b o (s9 b o (c06 b o n1 n2 e))))

/-! ### a program -/
section
variable {K : PySem.W.Frag} {σ : L2.St} {H : Hp} {Q : L2.St → Hp → Prop} {a : Addr} {x y z : V} {i j k : Nat}
theorem g_un2 (h : H a = some (.tup [x, y])) (q : Q ((σ.set i (some x)).set j (some y)) H) : gTup K 2 (gCons (gName i) (gCons (gName j) gNil)) (.ref a) σ H Q :=
  ⟨a, _, rfl, .of h, rfl, x, _, rfl, y, _, rfl, rfl, q⟩
theorem g_un3 (h : H a = some (.tup [x, y, z])) (q : Q (((σ.set i (some x)).set j (some y)).set k (some z)) H) : gTup K 3 (gCons (gName i) (gCons (gName j) (gCons (gName k) gNil))) (.ref a) σ H Q :=
  ⟨a, _, rfl, .of h, rfl, x, _, rfl, y, _, rfl, z, _, rfl, rfl, q⟩
theorem Tp.tup_inv {v : V} {ds : List PyData} (h : Tp H v (.tuple ds)) : ∃ a xs, v = .ref a ∧ H a = some (.tup xs) ∧ Tps H xs ds := by
  cases h with
  | tup e r => exact ⟨_, _, rfl, e, r⟩
theorem Tps.cons_inv {vs : List V} {d : PyData} {ds : List PyData} (h : Tps H vs (d :: ds)) : ∃ v us, vs = v :: us ∧ Tp H v d ∧ Tps H us ds := by
  cases h with
  | cons a b => exact ⟨_, _, rfl, a, b⟩
theorem Tps.nil_inv {vs : List V} (h : Tps H vs []) : vs = [] := by
  cases h
  rfl
theorem Tp.str_inv {v : V} {s : Str} (h : Tp H v (.str s)) : v = .str s := by
  cases h
  rfl
theorem Tp.int_inv {v : V} {n : Int} (h : Tp H v (.int n)) : v = .int n := by
  cases h
  rfl
/-- a tuple of two -/
theorem Tp.two {v : V} {d e : PyData} (h : Tp H v (.tuple [d, e])) : ∃ a x y, v = .ref a ∧ H a = some (.tup [x, y]) ∧ Tp H x d ∧ Tp H y e := by
  obtain ⟨a, xs, rfl, h1, h2⟩ := h.tup_inv
  obtain ⟨x, us, rfl, tx, h3⟩ := h2.cons_inv
  obtain ⟨y, us, rfl, ty, h4⟩ := h3.cons_inv
  rw [h4.nil_inv] at h1
  exact ⟨a, x, y, rfl, h1, tx, ty⟩
theorem Tp.three {v : V} {d e f : PyData} (h : Tp H v (.tuple [d, e, f])) : ∃ a x y z, v = .ref a ∧ H a = some (.tup [x, y, z]) ∧ Tp H x d ∧ Tp H y e ∧ Tp H z f := by
  obtain ⟨a, xs, rfl, h1, h2⟩ := h.tup_inv
  obtain ⟨x, us, rfl, tx, h3⟩ := h2.cons_inv
  obtain ⟨y, us, rfl, ty, h4⟩ := h3.cons_inv
  obtain ⟨z, us, rfl, tz, h5⟩ := h4.cons_inv
  rw [h5.nil_inv] at h1
  exact ⟨a, x, y, z, rfl, h1, tx, ty, tz⟩
end
structure Fn1 where
  name : Str
  things : List Str
  body : Part
def Fn1.data (f : Fn1) : PyData := .tuple [.str f.name, .tuple (f.things.map .str), f.body.data]
structure Prog where
  fs : List Fn1
  asked : Part
def Prog.data (P : Prog) : PyData := .tuple [.tuple (P.fs.map Fn1.data), P.asked.data]
def Prog.names (P : Prog) : List Str := P.fs.map (·.name)
structure Part.fine (fs sc : List Str) (p : Part) : Prop where
  ok : p.ok fs sc
  deep : p.deep ≤ 12
  size : p.size ≤ 60
  nd : p.rowNames.Nodup
  un : ∀ x ∈ p.rowNames, isName x ∧ x ∉ sc
structure Fn1.fine (fs : List Str) (f : Fn1) : Prop where
  nm : isName f.name
  few : f.things.length ≤ 4
  nd : f.things.Nodup
  th : ∀ x ∈ f.things, isName x
  body : f.body.fine fs f.things
structure Prog.fine (P : Prog) : Prop where
  few : P.fs.length ≤ 8
  nd : P.names.Nodup
  fs : ∀ f ∈ P.fs, f.fine P.names
  asked : P.asked.fine P.names []
def spProgram : Sp := fun vs H Q _ => ∃ (pen L : Addr), vs = [.ref pen] ∧ PenAt H pen L ∧
  ∀ (v : V) (P : Prog) (H' : Hp), Tp H' v P.data → P.fine → PenAt H' pen L → Chg pen H H' → Q v H'
theorem spNames_mk {pen L : Addr} {many : Int} {H : Hp} {Q : VK} {E : XK} (h : PenAt H pen L) (h0 : 0 ≤ many) (h1 : many ≤ 26)
    (q : ∀ (d : Addr) (ss : List Str) (H' : Hp), (ss.length : Int) = many → (∀ s ∈ ss, isName s) → ss.Nodup → H d = none → H' d = some (.lst (ss.map V.str)) → PenAt H' pen L → Chg pen H H' → Q (.ref d) H') : spNames ([.ref pen, .int many] ++ []) H Q E :=
  ⟨pen, L, many, rfl, h, h0, h1, q⟩
theorem fine_of {W : List (Str × Nat)} {p : Part} {ss sc st : List Str} (hn : ∀ s ∈ ss, isName s) (nd : ss.Nodup) (e : ss = sc ++ st) (h1 : p.ok (W.map (·.1)) sc) (h2 : p.deep ≤ 12) (h3 : p.size ≤ 60) (h4 : p.rowNames.Nodup) (h5 : ∀ x ∈ p.rowNames, x ∈ st) : p.fine (W.map (·.1)) sc :=
  ⟨h1, h2, h3, h4, fun x hx => ⟨hn x (by rw [e]; exact List.mem_append.mpr (.inr (h5 x hx))), fun hs => by rw [e] at nd; exact (List.nodup_append.mp nd).2.2 x hs x (h5 x hx) rfl⟩⟩
theorem pure_program {K : PySem.W.Frag} {w : World} : PureOk 1 spProgram (t_law_program K w spNames spDraw spBody) 8 := by
  refine ⟨fun vs H Q E ⟨_, _, e, _⟩ => by rw [e]; rfl, ?_⟩
  rintro vs H Q E ⟨pen, L, rfl, hP, q⟩
  show t_law_program K w _ _ _ _ [some (.ref pen), none, none, none, none, none, none, none] H
  unfold t_law_program
  walk_at "go"
  intro l1 H1 nl1 el1 s1
  walk_at "go"
  refine g_draw (hP.same s1) (by decide) (by decide) fun y H2 y0 y1 hP2 c2 => ?_
  obtain ⟨many, hm, hm0, hm1⟩ : ∃ many : Int, atI [V.int 0, V.int 1, V.int 2, V.int 3, V.int 4, V.int 2, V.int 3, V.int 8] y = some (.int many) ∧ 0 ≤ many ∧ many ≤ 8 := by
    obtain rfl | rfl | rfl | rfl | rfl | rfl | rfl | rfl : y = 0 ∨ y = 1 ∨ y = 2 ∨ y = 3 ∨ y = 4 ∨ y = 5 ∨ y = 6 ∨ y = 7 := by omega
    all_goals exact ⟨_, rfl, by decide, by decide⟩
  refine g_ixL (.of (c2 _ _ (hP.ne nl1).1.symm el1)) hm ?_
  walk_at "go"
  refine spNames_mk hP2 hm0 (by omega) fun nl ss H3 hss hsn hsd hn3 en3 hP3 c3 => ?_
  have c03 : Chg pen H H3 := (Chg.same s1).trans (c2.trans c3)
  walk_at "go"
  refine g_seqL ?_
  walk_at "go"
  refine g_isL (.of en3) fun wl hwl => ?_
  have npn : nl ≠ pen := (hP2.ne hn3).1.symm
  have nwn : nl ≠ wl := ne_of_none en3 hwl
  have fwl := hP3.ne hwl
  refine lc_any ss.length (fun i acc H' => ∃ W : List (Str × Nat), W.map (·.1) = ss.take i ∧ (∀ q ∈ W, q.2 ≤ 4) ∧ Tps H' acc (W.map fun q => .tuple [.str q.1, .int q.2]) ∧ PenAt H' pen L ∧ H' nl = some (.lst (ss.map V.str)) ∧ acc.length = i ∧ (∀ b o, b ≠ pen → b ≠ wl → H3 b = some o → H' b = some o)) hwl
    (fun H' _ s => ⟨[], by simp, by simp, .nil, hP3.same s, s _ _ en3, rfl, fun b o _ _ e => s b o e⟩)
    (fun i acc H' hi ⟨_, _, _, _, _, e, _⟩ => ⟨_, _, .of e, List.getElem?_eq_getElem (by rw [List.length_map]; exact hi)⟩) (fun acc H' ⟨_, _, _, _, _, e, _⟩ => ⟨_, .of e, by rw [List.length_map]; exact Nat.le_refl _⟩) ?_ ?_
  · rintro i x acc _ H5 hi hl ⟨W, hW, hW4, tW, hP5, en5, hacc, c5⟩ hd5 ⟨rfl, hx⟩
    obtain ⟨nm, hnmi, rfl⟩ : ∃ nm, ss[i]? = some nm ∧ x = .str nm := by
      have h1 := hx _ (.of en5)
      rw [List.getElem?_map] at h1
      obtain ⟨nm, h2, h3⟩ := Option.map_eq_some_iff.mp h1
      exact ⟨nm, h2, h3.symm⟩
    walk_at "go"
    refine ⟨rfl, ?_⟩
    walk_at "go"
    refine g_T rfl ?_
    walk_at "go"
    intro l6 H6 nl6 el6 s6
    walk_at "go"
    refine g_draw (hP5.same s6) (by decide) (by decide) fun y H7 y0 y1 hP7 c7 => ?_
    obtain ⟨k, hk, hk4⟩ : ∃ k : Nat, atI [V.int 1, V.int 0, V.int 1, V.int 2, V.int 2, V.int 3, V.int 4] y = some (.int k) ∧ k ≤ 4 := by
      obtain rfl | rfl | rfl | rfl | rfl | rfl | rfl : y = 0 ∨ y = 1 ∨ y = 2 ∨ y = 3 ∨ y = 4 ∨ y = 5 ∨ y = 6 := by omega
      · exact ⟨1, rfl, by decide⟩
      · exact ⟨0, rfl, by decide⟩
      · exact ⟨1, rfl, by decide⟩
      · exact ⟨2, rfl, by decide⟩
      · exact ⟨2, rfl, by decide⟩
      · exact ⟨3, rfl, by decide⟩
      · exact ⟨4, rfl, by decide⟩
    refine g_ixL (.of (c7 _ _ (hP5.ne nl6).1.symm el6)) hk ?_
    walk_at "go"
    intro a8 H8 na8 ea8 s8
    have c58 : Chg pen H5 H8 := (Chg.same s6).trans (c7.trans (.same s8))
    have k8 : Tk H5 H8 := hP5.tk c58
    have hd8 := c58 _ _ fwl.1.symm hd5
    refine lc_step hd8 hl (by have : (ss.length : Int) ≤ 8 := by omega
                              show _ < 16777216; omega) fun H9 e9 c9 => ?_
    have k9 : Tk H8 H9 := c9.tkl hd8
    refine ⟨W ++ [(nm, k)], ?_, ?_, ?_, (hP7.same s8).chg c9 fwl.1 fwl.2, c9 _ _ nwn (c58 _ _ npn en5), by simp [hacc], fun b o n1 n2 e => c9 b o n2 (c58 b o n1 (c5 b o n1 n2 e))⟩
    · rw [List.map_append, hW, List.take_add_one, hnmi]
      rfl
    · intro q hq
      rcases List.mem_append.mp hq with h | h
      · exact hW4 q h
      · rw [List.mem_singleton.mp h]
        exact hk4
    · rw [List.map_append]
      exact Tps.append ((tW.mono k8).mono k9) (.one (.tup (k9 _ _ ea8) (.cons (.str _) (.one (.int _)))))
  rintro wx H5 hw5 ⟨W, hW, hW4, tW, hP5, en5, hacc, c5⟩
  rw [List.take_length] at hW
  have hWl : W.length = ss.length := by rw [← hW, List.length_map]
  have hWO : WorldOk W := ⟨by omega, fun q hq => ⟨hsn _ (by rw [← hW]; exact List.mem_map.mpr ⟨q, hq, rfl⟩), hW4 q hq⟩⟩
  have c05 : Chg pen H H5 := fun b o n1 e => c5 b o n1 (ne_of_none (c03 b o n1 e) hwl) (c03 b o n1 e)
  walk_at "go"
  intro fl H6 nf ef s6
  walk_at "go"
  have hw6 := s6 _ _ hw5
  have tW6 := tW.mono (Same.tk s6)
  have hP6 := hP5.same s6
  refine g_seqL ?_
  walk_at "go"
  refine g_isL (.of hw6) ?_
  have ffl := hP5.ne nf
  have nfw : wl ≠ fl := ne_of_none hw5 nf
  refine for_any W.length (fun i σ H' => ∃ (x3 x5 x6 x7 : Option V) (vs : List V) (fs : List Fn1), σ = [some (.ref pen), some (.ref nl), some (.ref wl), x3, some (.ref fl), x5, x6, x7] ∧
      H' fl = some (.lst vs) ∧ H' wl = some (.lst wx) ∧ Tps H' wx (W.map fun q => .tuple [.str q.1, .int q.2]) ∧ Tps H' vs (fs.map Fn1.data) ∧ fs.map (·.name) = (W.map (·.1)).take i ∧ (∀ f ∈ fs, f.fine (W.map (·.1))) ∧ PenAt H' pen L ∧ vs.length = i ∧ (∀ b o, b ≠ pen → b ≠ fl → H6 b = some o → H' b = some o))
    ⟨none, none, none, none, [], [], rfl, ef, hw6, tW6, .nil, by simp, by simp, hP6, rfl, fun b o _ _ e => e⟩
    (fun i σ H' hi ⟨_, _, _, _, _, _, _, _, e, t, _⟩ => ⟨_, _, .of e, List.getElem?_eq_getElem (by rw [t.length, List.length_map]; exact hi)⟩) (fun σ H' ⟨_, _, _, _, _, _, _, _, e, t, _⟩ => ⟨_, .of e, by rw [t.length, List.length_map]; exact Nat.le_refl _⟩) ?_ ?_
  · rintro i x σ _ H7 hi ⟨x3, x5, x6, x7, vs, fs, rfl, hf7, hw7, tW7, tf7, hfs, hfine, hP7, hvl, c7⟩ ⟨rfl, hx⟩
    obtain ⟨d, hd, tx⟩ := tW7.get (hx _ (.of hw7))
    rw [List.getElem?_map] at hd
    obtain ⟨⟨f, k⟩, hfk, rfl⟩ := Option.map_eq_some_iff.mp hd
    have hfW := List.mem_of_getElem? hfk
    obtain ⟨a, u1, u2, rfl, ea, t1, t2⟩ := tx.two
    rw [t1.str_inv, t2.int_inv] at ea
    have hk4 : k ≤ 4 := (hWO.2 _ hfW).2
    refine g_un2 ea ?_
    walk_at "go"
    refine spNames_mk hP7 (by decide) (by decide) fun sk ns H8 hns hnn hnd nsk esk hP8 c8 => ?_
    walk_at "go"
    have hkn : k ≤ ns.length := by omega
    refine g_slL (.of esk) fun th H9 nth eth s9 => ?_
    rw [cut_to] at eth
    walk_at "go"
    have c79 : Chg pen H7 H9 := c8.trans (.same s9)
    have hf9 := c79 _ _ ffl.1.symm hf7
    have hw9 := c79 _ _ fwl.1.symm hw7
    refine g_tyl (.of hf9) ?_
    walk_at "go"
    refine g_tupleL (.of eth) fun tt H10 ntt ett s10 => ?_
    walk_at "go"
    have esk10 := s10 _ _ (s9 _ _ esk)
    refine g_slL (.of esk10) fun st H11 nst est s11 => ?_
    rw [cut_from k hkn] at est
    walk_at "go"
    have c711 : Chg pen H7 H11 := c79.trans ((Chg.same s10).trans (.same s11))
    have hP9 : PenAt H9 pen L := hP8.same s9
    have hP10 : PenAt H10 pen L := hP9.same s10
    have hP11 : PenAt H11 pen L := hP10.same s11
    have fth := hP8.ne nth
    have fst := hP10.ne nst
    have hw11 := c711 _ _ fwl.1.symm hw7
    have hf11 := c711 _ _ ffl.1.symm hf7
    have k11 : Tk H7 H11 := hP7.tk c711
    have eth11 := s11 _ _ (s10 _ _ eth)
    have esp : ns = ns.take k ++ ns.drop k := (List.take_append_drop k ns).symm
    refine ⟨pen, L, wl, th, st, W, f, ns.take k, ns.drop k, rfl,
      ⟨hP11, ⟨wx, hw11, tW7.mono k11⟩, eth11, est, fwl.1.symm, ne_of_none (s10 _ _ hw9) nst, fth.1.symm, ne_of_none (s10 _ _ eth) nst, fst.1.symm, fst.2.symm⟩,
      ⟨hWO, ⟨fun x hx => hnn x (List.mem_of_mem_take hx), fun x hx => hnn x (List.mem_of_mem_drop hx), List.Sublist.nodup (List.drop_sublist k ns) hnd, by rw [List.length_take, List.length_drop]; omega⟩, .inr (List.mem_map.mpr ⟨_, hfW, rfl⟩), by rw [List.length_take]; omega⟩,
      fun v p H12 t12 hP12 ok12 d12 z12 nd12 un12 c12 => ?_⟩
    walk_at "go"
    intro a13 H13 na13 ea13 s13
    walk_at "go"
    have nws : wl ≠ st := ne_of_none (s10 _ _ hw9) nst
    have nfs : fl ≠ st := ne_of_none (s10 _ _ hf9) nst
    have nts : tt ≠ st := ne_of_none ett nst
    have ntp : tt ≠ pen := (hP9.ne ntt).1.symm
    have hf13 := s13 _ _ (c12 _ _ ffl.1.symm nfs hf11)
    have hw13 := s13 _ _ (c12 _ _ fwl.1.symm nws hw11)
    have k12 : Tk H11 H12 := fun b xs e => c12 b _ (by obtain ⟨_, _, _, hp, _⟩ := hP11; rintro rfl; rw [hp] at e; cases e) (by rintro rfl; rw [est] at e; cases e) e
    have k13 : Tk H7 H13 := (k11.trans k12).trans (Same.tk s13)
    refine g_append hf13 (by have := hWO.1; rw [hvl]; show _ < 16777216; omega) fun H14 e14 c14 => ?_
    walk_at "go"
    have k14 : Tk H13 H14 := c14.tkl hf13
    have hP13 := hP12.same s13
    refine ⟨_, _, _, _, vs ++ [.ref a13], fs ++ [⟨f, ns.take k, p⟩], rfl, e14, c14 _ _ nfw hw13, (tW7.mono k13).mono k14, ?_, ?_, ?_, hP13.chg c14 ffl.1 ffl.2, by simp [hvl], fun b o n1 n2 e => c14 b o n2 (s13 b o (c12 b o n1 (ne_of_none (s10 b o (c79 b o n1 (c7 b o n1 n2 e))) nst) (c711 b o n1 (c7 b o n1 n2 e))))⟩
    · rw [List.map_append]
      refine Tps.append ((tf7.mono k13).mono k14) (.one (.tup (k14 _ _ ea13) (.cons (.str _) (.cons (.tup (k14 _ _ (s13 _ _ (c12 _ _ ntp nts (s11 _ _ ett)))) (Tps.strs _)) (.one ((t12.mono (Same.tk s13)).mono k14))))))
    · rw [List.map_append, hfs, List.take_add_one, List.getElem?_map, hfk]
      rfl
    · intro g hg
      rcases List.mem_append.mp hg with h | h
      · exact hfine g h
      · rw [List.mem_singleton.mp h]
        exact ⟨(hWO.2 _ hfW).1, by show (ns.take k).length ≤ 4; rw [List.length_take]; omega, List.Sublist.nodup (List.take_sublist k ns) hnd, fun x hx => hnn x (List.mem_of_mem_take hx), fine_of hnn hnd esp ok12 d12 z12 nd12 un12⟩
  rintro σ H7 ⟨x3, x5, x6, x7, vs, fs, rfl, hf7, hw7, tW7, tf7, hfs, hfine, hP7, hvl, c7⟩
  rw [show W.length = (W.map (·.1)).length from (List.length_map _).symm, List.take_length] at hfs
  walk_at "go"
  refine g_tupleL (.of hf7) fun tf H8 ntf etf s8 => ?_
  walk_at "go"
  intro sc H9 nsc esc s9
  walk_at "go"
  have hP8 : PenAt H8 pen L := hP7.same s8
  have hP9 : PenAt H9 pen L := hP8.same s9
  have fsc := hP8.ne nsc
  refine spNames_mk hP9 (by decide) (by decide) fun st ns H10 hns hnn hnd nst est hP10 c10 => ?_
  walk_at "go"
  have c710 : Chg pen H7 H10 := (Chg.same s8).trans ((Chg.same s9).trans c10)
  have fst := hP9.ne nst
  have k10 : Tk H7 H10 := hP7.tk c710
  have hw10 := c710 _ _ fwl.1.symm hw7
  have esc10 := c10 _ _ fsc.1.symm esc
  refine ⟨pen, L, wl, sc, st, W, "", [], ns, rfl,
    ⟨hP10, ⟨wx, hw10, tW7.mono k10⟩, esc10, est, fwl.1.symm, ne_of_none (s9 _ _ (s8 _ _ hw7)) nst, fsc.1.symm, ne_of_none esc nst, fst.1.symm, fst.2.symm⟩,
    ⟨hWO, ⟨fun x hx => absurd hx (by simp), hnn, hnd, by show 0 + _ ≤ _; omega⟩, .inl rfl, by decide⟩, fun v p H11 t11 hP11 ok11 d11 z11 nd11 un11 c11 => ?_⟩
  walk_at "go"
  intro a12 H12 na12 ea12 s12
  have ntp : tf ≠ pen := (hP7.ne ntf).1.symm
  have nts : tf ≠ st := ne_of_none (s9 _ _ etf) nst
  have k11 : Tk H10 H11 := fun b xs e => c11 b _ (by obtain ⟨_, _, _, hp, _⟩ := hP10; rintro rfl; rw [hp] at e; cases e) (by rintro rfl; rw [est] at e; cases e) e
  have k12 := (k10.trans k11).trans (Same.tk s12)
  have hnm : (Prog.mk fs p).names = W.map (·.1) := hfs
  refine q (.ref a12) ⟨fs, p⟩ H12 ?_ ⟨?_, ?_, ?_, ?_⟩ (hP11.same s12) fun b o n1 e => ?_
  · refine .tup ea12 (.cons (.tup (s12 _ _ (c11 _ _ ntp nts (c10 _ _ ntp (s9 _ _ etf)))) (tf7.mono k12)) (.one (t11.mono (Same.tk s12))))
  · have := congrArg List.length hfs
    rw [List.length_map, List.length_map] at this
    have := hWO.1
    show fs.length ≤ 8
    omega
  · rw [hnm, hW]
    exact hsd
  · rw [hnm]
    exact hfine
  · rw [hnm]
    exact fine_of hnn hnd rfl ok11 d11 z11 nd11 un11
  · have e5 := c05 b o n1 e
    have e6 := s6 b o e5
    have e7 := c7 b o n1 (ne_of_none e5 nf) e6
    have e9 := s9 b o (s8 b o e7)
    exact s12 b o (c11 b o n1 (ne_of_none e9 nst) (c10 b o n1 e9))

/-! ### parts within parts -/
section
variable {K : PySem.W.Frag} {w : World} {σ : L2.St} {H : Hp} {Q : VK} {D : Ends} {c : TT} {tb : TS} {d : Addr} {z : Str} {kvs : List (Str × V)}
theorem while_any (Pv : Nat → L2.St → Hp → Prop) (m : Nat) (h0 : Pv m σ H)
    (hs : ∀ m σ H, Pv m σ H → c σ H fun b H1 => if b = true then ∃ N : L2.St → Hp → Prop, (∀ σ' H', N σ' H' → ∃ m', m' < m ∧ Pv m' σ' H') ∧ tb { D with nx := N, ct := N, bk := D.nx } σ H1 else D.nx σ H1) : tWhile c tb D σ H :=
  ⟨Pv, ⟨m, h0⟩, hs⟩
/-- a turn of a while -/
theorem g_turn {Pv : Nat → L2.St → Hp → Prop} {m : Nat} (h : tb { D with nx := fun σ' H' => ∃ m', m' < m ∧ Pv m' σ' H', ct := fun σ' H' => ∃ m', m' < m ∧ Pv m' σ' H', bk := D.nx } σ H) :
    ∃ N : L2.St → Hp → Prop, (∀ σ' H', N σ' H' → ∃ m', m' < m ∧ Pv m' σ' H') ∧ tb { D with nx := N, ct := N, bk := D.nx } σ H := ⟨_, fun _ _ h => h, h⟩
theorem g_inK (T : KTab K w d kvs) {r : Bool} (e : (kvs.find? fun q => decide (q.1 = z)).isSome = r) (q : Q (.bl r) H) : rInG K w false (.str z) (.ref d) H Q :=
  .inr (.inr (.inr ⟨z, d, _, rfl, rfl, T z, by subst e; simpa using q⟩))
theorem Tps.snoc_inv : ∀ {ds : List PyData} {e : PyData} {us : List V}, Tps H us (ds ++ [e]) → ∃ vs v, us = vs ++ [v] ∧ Tps H vs ds ∧ Tp H v e
  | [], e, us, h => by
    obtain ⟨v, r, rfl, tv, tr⟩ := h.cons_inv
    rw [tr.nil_inv]
    exact ⟨[], v, rfl, .nil, tv⟩
  | d :: ds, e, us, h => by
    obtain ⟨v, r, rfl, tv, tr⟩ := Tps.cons_inv (ds := ds ++ [e]) h
    obtain ⟨vs, x, rfl, t1, t2⟩ := Tps.snoc_inv tr
    exact ⟨v :: vs, x, rfl, .cons tv t1, t2⟩
/-- the list at l is unlike nothing, or like -/
theorem g_neLL {a b : Addr} {xs ys : List V} {ds es : List PyData} (ha : H a = some (.lst xs)) (hb : H b = some (.lst ys)) (ta : Tps H xs ds) (tb : Tps H ys es) (sa : SeqAt.shaped (.list ds) = true) (sb : SeqAt.shaped (.list es) = true)
    (q : Q (.bl (!PyData.eqv (.list ds) (.list es))) H) : rNeG K (.ref a) (.ref b) H Q := g_neD (.lst (.of ha) (Tps.dp ta)) (.lst (.of hb) (Tps.dp tb)) sa sb q
end
mutual
/-- all parts of a part, each ahead of what it holds -/
def Part.all : Part → List Part
  | .num n => [.num n]
  | .name x => [.name x]
  | .fn f => [.fn f]
  | .one k a => .one k a :: a.all
  | .two k a b => .two k a b :: (a.all ++ b.all)
  | .whn a b c => .whn a b c :: (a.all ++ (b.all ++ c.all))
  | .letp r a => .letp r a :: (r.all ++ a.all)
  | .shut a => [.shut a]
def Rows.all : Rows → List Part
  | .nil => []
  | .cons _ a r => a.all ++ r.all
end
theorem Rows.all_flat : ∀ r : Rows, r.all = r.parts.flatMap Part.all
  | .nil => rfl
  | .cons x a r => by
    show a.all ++ r.all = (a :: r.parts).flatMap Part.all
    rw [List.flatMap_cons, ← Rows.all_flat r]
theorem Part.all_kids (p : Part) : p.all = p :: p.kids.flatMap Part.all := by
  cases p with
  | letp r a =>
    show _ :: (r.all ++ a.all) = _ :: (r.parts ++ [a]).flatMap Part.all
    rw [Rows.all_flat, List.flatMap_append]
    simp
  | _ => simp [Part.all, Part.kids]
/-- sums, greatest depths -/
def sz : List Part → Nat
  | [] => 0
  | p :: r => p.size + sz r
def mxd : List Part → Nat
  | [] => 0
  | p :: r => max p.deep (mxd r)
theorem sz_app : ∀ a b : List Part, sz (a ++ b) = sz a + sz b
  | [], b => by show sz b = 0 + sz b; omega
  | p :: a, b => by
    show p.size + sz (a ++ b) = p.size + sz a + sz b
    rw [sz_app a b]
    omega
theorem mxd_app : ∀ a b : List Part, mxd (a ++ b) = max (mxd a) (mxd b)
  | [], b => by show mxd b = max 0 (mxd b); omega
  | p :: a, b => by
    show max p.deep (mxd (a ++ b)) = max (max p.deep (mxd a)) (mxd b)
    rw [mxd_app a b]
    omega
theorem sz_len : ∀ a : List Part, a.length ≤ sz a
  | [] => Nat.le_refl _
  | p :: a => by
    have := sz_len a
    have := p.size_pos
    show a.length + 1 ≤ p.size + sz a
    omega
theorem Rows.sz : ∀ r : Rows, r.size = Lz.sz r.parts
  | .nil => rfl
  | .cons x a r => by
    show a.size + r.size = a.size + Lz.sz r.parts
    rw [Rows.sz r]
theorem Rows.mxd : ∀ r : Rows, r.deep = Lz.mxd r.parts
  | .nil => rfl
  | .cons x a r => by
    show max a.deep r.deep = max a.deep (Lz.mxd r.parts)
    rw [Rows.mxd r]
theorem Part.sz_kids (p : Part) : p.size = 1 + sz p.kids := by
  cases p with
  | letp r a =>
    show 1 + (r.size + a.size) = 1 + sz (r.parts ++ [a])
    rw [sz_app, Rows.sz]
    rfl
  | _ => rfl
theorem Part.mxd_kids (p : Part) : p.deep = 1 + mxd p.kids := by
  cases p with
  | letp r a =>
    show 1 + max r.deep a.deep = 1 + mxd (r.parts ++ [a])
    rw [mxd_app, Rows.mxd]
    show _ = 1 + max _ (max a.deep 0)
    omega
  | one k a => show 1 + a.deep = 1 + max a.deep 0; omega
  | two k a b => show 1 + max a.deep b.deep = 1 + max a.deep (max b.deep 0); omega
  | whn a b c => show 1 + max a.deep (max b.deep c.deep) = 1 + max a.deep (max b.deep (max c.deep 0)); omega
  | _ => rfl
theorem mxd_mem {q : Part} : ∀ {a : List Part}, q ∈ a → q.deep ≤ mxd a
  | p :: a, h => by
    show q.deep ≤ max p.deep (mxd a)
    rcases List.mem_cons.mp h with rfl | h
    · omega
    · have := mxd_mem h
      omega
theorem mxd_le {n : Nat} : ∀ {a : List Part}, (∀ q ∈ a, q.deep ≤ n) → mxd a ≤ n
  | [], _ => Nat.zero_le _
  | p :: a, h => by
    have h1 := h p (by simp)
    have h2 := mxd_le fun q hq => h q (List.mem_cons_of_mem _ hq)
    show max p.deep (mxd a) ≤ n
    omega
theorem all_len : ∀ (n : Nat) (p : Part), p.size ≤ n → p.all.length = p.size := by
  intro n
  induction n with
  | zero => intro p h; have := p.size_pos; omega
  | succ n ih =>
    intro p h
    have h1 := p.sz_kids
    rw [p.all_kids, List.length_cons, h1]
    have : ∀ l : List Part, sz l ≤ n → (l.flatMap Part.all).length = sz l := by
      intro l
      induction l with
      | nil => intro _; rfl
      | cons q l il =>
        intro hl
        have hl' : q.size + sz l ≤ n := hl
        rw [List.flatMap_cons, List.length_append, ih q (by omega), il (by omega)]
        rfl
    rw [this _ (by omega)]
    omega
theorem Part.all_len (p : Part) : p.all.length = p.size := Lz.all_len p.size p (Nat.le_refl _)
/-! what stands in a program -/
def Part.good (p : Part) : Prop := (∃ fs sc, p.ok fs sc) ∧ p.deep ≤ 12
theorem Rows.ok_parts {fs sc : List Str} : ∀ {r : Rows}, r.ok fs sc → ∀ q ∈ r.parts, q.ok fs sc
  | .cons x a r, h, q, hq => by
    rcases List.mem_cons.mp hq with rfl | hq
    · exact h.1
    · exact Rows.ok_parts h.2 q hq
theorem Part.ok_kids {fs sc : List Str} {p : Part} (h : p.ok fs sc) : ∃ sc', ∀ q ∈ p.kids, q.ok fs sc' := by
  cases p with
  | num n => exact ⟨sc, by simp [Part.kids]⟩
  | name x => exact ⟨sc, by simp [Part.kids]⟩
  | fn f => exact ⟨sc, by simp [Part.kids]⟩
  | one k a => exact ⟨sc, fun q hq => by rw [List.mem_singleton.mp hq]; exact h⟩
  | two k a b =>
    refine ⟨sc, fun q hq => ?_⟩
    simp only [Part.kids, List.mem_cons, List.not_mem_nil, or_false] at hq
    rcases hq with rfl | rfl
    · exact h.1
    · exact h.2
  | whn a b c =>
    refine ⟨sc, fun q hq => ?_⟩
    simp only [Part.kids, List.mem_cons, List.not_mem_nil, or_false] at hq
    rcases hq with rfl | rfl | rfl
    · exact h.1
    · exact h.2.1
    · exact h.2.2
  | letp r a =>
    obtain ⟨_, _, _, h1, h2⟩ := h
    refine ⟨sc ++ r.names, fun q hq => ?_⟩
    rcases List.mem_append.mp hq with hq | hq
    · exact Rows.ok_parts h1 q hq
    · rw [List.mem_singleton.mp hq]
      exact h2
  | shut a => exact h.elim
theorem Part.good.kids {p : Part} (h : p.good) : ∀ q ∈ p.kids, q.good := by
  obtain ⟨⟨fs, sc, h1⟩, h2⟩ := h
  obtain ⟨sc', h3⟩ := Part.ok_kids h1
  have h4 := p.mxd_kids
  exact fun q hq => ⟨⟨fs, sc', h3 q hq⟩, by have := mxd_mem hq; omega⟩
theorem lay_word1 : ∀ k : K1, PyData.strOk k.word = true := by intro k; cases k <;> decide +kernel
theorem lay_word2 : ∀ k : K2, PyData.strOk k.word = true := by intro k; cases k <;> decide +kernel
mutual
theorem Part.lay {fs : List Str} : ∀ {p : Part} {sc : List Str}, p.ok fs sc → PyData.canLay0 p.data = true ∧ PyData.depth p.data ≤ 3 * p.deep
  | .num n, sc, h => by simp [Part.data, PyData.canLay0, PyData.canLayAll0, PyData.depth, PyData.depthAll, Part.deep]; decide +kernel
  | .name x, sc, h => by
    have := canLay_name h.2
    rw [PyData.canLay0] at this
    simp [Part.data, PyData.canLay0, PyData.canLayAll0, PyData.depth, PyData.depthAll, Part.deep, this]; decide +kernel
  | .fn x, sc, h => by
    have := canLay_name h.2
    rw [PyData.canLay0] at this
    simp [Part.data, PyData.canLay0, PyData.canLayAll0, PyData.depth, PyData.depthAll, Part.deep, this]; decide +kernel
  | .one k a, sc, h => by
    obtain ⟨h1, h2⟩ := Part.lay (p := a) h
    have hw := lay_word1 k
    simp only [Part.data, PyData.canLay0, PyData.canLayAll0, PyData.depth, PyData.depthAll, Part.deep, h1, hw, Bool.and_true, Bool.true_and]
    exact ⟨trivial, by omega⟩
  | .two k a b, sc, h => by
    obtain ⟨h1, h2⟩ := Part.lay (p := a) h.1
    obtain ⟨h3, h4⟩ := Part.lay (p := b) h.2
    have hw := lay_word2 k
    simp only [Part.data, PyData.canLay0, PyData.canLayAll0, PyData.depth, PyData.depthAll, Part.deep, h1, h3, hw, Bool.and_true, Bool.true_and]
    exact ⟨trivial, by omega⟩
  | .whn a b c, sc, h => by
    obtain ⟨h1, h2⟩ := Part.lay (p := a) h.1
    obtain ⟨h3, h4⟩ := Part.lay (p := b) h.2.1
    obtain ⟨h5, h6⟩ := Part.lay (p := c) h.2.2
    have hw : PyData.strOk "when" = true := by decide +kernel
    simp only [Part.data, PyData.canLay0, PyData.canLayAll0, PyData.depth, PyData.depthAll, Part.deep, h1, h3, h5, hw, Bool.and_true, Bool.true_and]
    exact ⟨trivial, by omega⟩
  | .letp r a, sc, h => by
    obtain ⟨h1, h2⟩ := Part.lay (p := a) h.2.2.2.2
    obtain ⟨h3, h4⟩ := Rows.lay (r := r) h.2.2.2.1 h.2.2.1
    have hw : PyData.strOk "let" = true := by decide +kernel
    simp only [Part.data, PyData.canLay0, PyData.canLayAll0, PyData.depth, PyData.depthAll, Part.deep, h1, h3, hw, Bool.and_true, Bool.true_and]
    exact ⟨trivial, by omega⟩
  | .shut a, sc, h => h.elim
theorem Rows.lay {fs : List Str} : ∀ {r : Rows} {sc : List Str}, r.ok fs sc → (∀ x ∈ r.names, isName x) → PyData.canLayAll0 r.datas = true ∧ PyData.depthAll r.datas ≤ 3 * r.deep + 1
  | .nil, sc, h, _ => by simp [Rows.datas, PyData.canLayAll0, PyData.depthAll]
  | .cons x a r, sc, h, hn => by
    obtain ⟨h1, h2⟩ := Part.lay (p := a) h.1
    obtain ⟨h3, h4⟩ := Rows.lay (r := r) h.2 fun y hy => hn y (List.mem_cons_of_mem _ hy)
    have hw := canLay_name (hn x (by show x ∈ x :: r.names; simp))
    rw [PyData.canLay0] at hw
    simp only [Rows.datas, PyData.canLay0, PyData.canLayAll0, PyData.depth, PyData.depthAll, Rows.deep, h1, h3, hw, Bool.and_true, Bool.true_and]
    exact ⟨trivial, by omega⟩
end
theorem Part.good.lay {p : Part} (h : p.good) : PyData.canLay0 p.data = true ∧ PyData.depth p.data ≤ 36 := by
  obtain ⟨⟨fs, sc, h1⟩, h2⟩ := h
  have := Part.lay h1
  exact ⟨this.1, by omega⟩
theorem shaped_parts {ps : List Part} (h : ∀ p ∈ ps, p.good) : SeqAt.shaped (.list (ps.map Part.data)) = true :=
  shaped_list (k := 36) (fun d hd => by obtain ⟨p, hp, rfl⟩ := List.mem_map.mp hd; exact (h p hp).lay.1) (fun d hd => by obtain ⟨p, hp, rfl⟩ := List.mem_map.mp hd; exact (h p hp).lay.2) (by decide)
theorem eqv_parts {ps : List Part} (h : ∀ p ∈ ps, p.good) : PyData.eqv (.list (ps.map Part.data)) (.list (ps.map Part.data)) = true :=
  PySem.SeqAt.eqv_refl _ (SeqAt.canLay_of_shaped (shaped_parts h))
/-- the rows' values -/
theorem Rows.get : ∀ {r : Rows} {i : Nat} {d : PyData}, r.datas[i]? = some d → ∃ x p, r.names[i]? = some x ∧ r.parts[i]? = some p ∧ d = .tuple [.str x, p.data]
  | .nil, i, d, h => by simp [Rows.datas] at h
  | .cons x a r, 0, d, h => by
    have h1 : some (PyData.tuple [.str x, a.data]) = some d := h
    cases h1
    exact ⟨x, a, rfl, rfl, rfl⟩
  | .cons x a r, i + 1, d, h => Rows.get (r := r) h
theorem Rows.len : ∀ r : Rows, r.datas.length = r.parts.length
  | .nil => rfl
  | .cons x a r => congrArg (· + 1) (Rows.len r)
def spKids : Sp := fun vs H Q _ => ∃ (v : V) (p : Part), vs = [v] ∧ Tp H v p.data ∧ p.good ∧ p.size ≤ 60 ∧ ∀ (l : Addr) (us : List V) (H' : Hp), H l = none → H' l = some (.lst us) → Tps H' us (p.kids.map Part.data) → Same H H' → Q (.ref l) H'
theorem not_whole {n d : Nat} {o : Option Int} (h : 1 ≤ n) : ¬ (HT.sIx n 0 (some 1) = 0 ∧ HT.sIx n d o = n) := by
  rintro ⟨h1, _⟩
  rw [show (1 : Int) = ((1 : Nat) : Int) from rfl, HT.sIx_nat] at h1
  omega
theorem g_in3 {K : PySem.W.Frag} {w : World} {H : Hp} {Q : VK} {p : Addr} {ss : List Str} {k : Str} {r : Bool} (h : SqT K H p (ss.map V.str)) (e : decide (k ∈ ss) = r) (q : Q (.bl r) H) : rInG K w false (.str k) (.ref p) H Q := g_inT h (by rw [e]; exact q)
def PARTSkvs : List (Str × V) := [("give", .int 2), ("plus", .int 2), ("less", .int 2), ("times", .int 2), ("below", .int 2), ("when", .int 3), ("pair", .int 2), ("left", .int 1), ("right", .int 1)]

/-! ### sums -/
def allGood (ps : List Part) : Prop := ∀ p ∈ ps, p.good
theorem sz_mem {q : Part} : ∀ {a : List Part}, q ∈ a → q.size ≤ sz a
  | p :: a, h => by
    show q.size ≤ p.size + sz a
    rcases List.mem_cons.mp h with rfl | h
    · omega
    · have := sz_mem h
      omega
theorem sz_rev : ∀ a : List Part, sz a.reverse = sz a
  | [] => rfl
  | p :: a => by
    rw [List.reverse_cons, sz_app, sz_rev a]
    show sz a + (p.size + 0) = p.size + sz a
    omega
/-! ### how deep -/
def dsz : List (Part × Nat) → Nat
  | [] => 0
  | (p, _) :: r => p.size + dsz r
def dmx : List (Part × Nat) → Nat
  | [] => 0
  | (p, d) :: r => max (d + p.deep) (dmx r)
theorem dsz_app : ∀ a b : List (Part × Nat), dsz (a ++ b) = dsz a + dsz b
  | [], b => by show dsz b = 0 + dsz b; omega
  | (p, d) :: a, b => by
    show p.size + dsz (a ++ b) = p.size + dsz a + dsz b
    rw [dsz_app a b]
    omega
theorem dmx_app : ∀ a b : List (Part × Nat), dmx (a ++ b) = max (dmx a) (dmx b)
  | [], b => by show dmx b = max 0 (dmx b); omega
  | (p, d) :: a, b => by
    show max (d + p.deep) (dmx (a ++ b)) = max (max (d + p.deep) (dmx a)) (dmx b)
    rw [dmx_app a b]
    omega
theorem dsz_map (d : Nat) : ∀ a : List Part, dsz (a.map fun p => (p, d)) = sz a
  | [] => rfl
  | p :: a => by
    show p.size + dsz _ = p.size + sz a
    rw [dsz_map d a]
theorem dmx_map (d : Nat) : ∀ a : List Part, a ≠ [] → dmx (a.map fun p => (p, d)) = d + mxd a
  | [], h => absurd rfl h
  | [p], _ => by show max (d + p.deep) 0 = d + max p.deep 0; omega
  | p :: q :: a, _ => by
    have ih := dmx_map d (q :: a) (by simp)
    show max (d + p.deep) (dmx ((q :: a).map fun p => (p, d))) = d + max p.deep (mxd (q :: a))
    rw [ih]
    omega
theorem dsz_len : ∀ a : List (Part × Nat), a.length ≤ dsz a
  | [] => Nat.le_refl _
  | (p, d) :: a => by
    have := dsz_len a
    have := p.size_pos
    show a.length + 1 ≤ p.size + dsz a
    omega
theorem dsz_mem {q : Part × Nat} : ∀ {a : List (Part × Nat)}, q ∈ a → q.1.size ≤ dsz a
  | (p, d) :: a, h => by
    show q.1.size ≤ p.size + dsz a
    rcases List.mem_cons.mp h with rfl | h
    · show p.size ≤ _; omega
    · have := dsz_mem h
      omega
def pd (q : Part × Nat) : PyData := .tuple [q.1.data, .int q.2]
theorem shaped_pd {ps : List (Part × Nat)} (h : ∀ q ∈ ps, q.1.good) : SeqAt.shaped (.list (ps.map pd)) = true :=
  shaped_list (k := 37) (fun d hd => by
      obtain ⟨p, hp, rfl⟩ := List.mem_map.mp hd
      simp only [pd, PyData.canLay0, PyData.canLayAll0, (h p hp).lay.1, Bool.and_true])
    (fun d hd => by
      obtain ⟨p, hp, rfl⟩ := List.mem_map.mp hd
      have := (h p hp).lay.2
      simp only [pd, PyData.depth, PyData.depthAll]
      omega) (by decide)
theorem sum_sz : ∀ a : List Part, (a.map fun q => (q.size : Int)).sum = sz a
  | [] => rfl
  | p :: a => by
    rw [List.map_cons, List.sum_cons, sum_sz a]
    show (p.size : Int) + _ = ((p.size + sz a : Nat) : Int)
    omega

/-! ### kids -/
theorem pure_within {K : PySem.W.Frag} {w : World} (T : KTab K w (He.ga K "PARTS") PARTSkvs) : PureOk 1 spKids (t_within K w) 3 := by
  refine ⟨fun vs H Q E ⟨_, _, e, _⟩ => by rw [e]; rfl, ?_⟩
  rintro vs H Q E ⟨v, p, rfl, t, hg, hz, q⟩
  show t_within K w _ [some v, none, none] H
  unfold t_within
  walk_at "go"
  have leaf : ∀ {x : Str} {y : V} {a : Addr} {Q' : VK}, H a = some (.tup [.str x, y]) → Q' (.str x) H → rIxG K w (.ref a) (.int 0) H Q' := fun e q => g_ixT (.of e) (atI_of (by decide) rfl) q
  cases p with
  | shut a => exact hg.1.elim fun _ h => h.elim fun _ h => h.elim
  | num n =>
    obtain ⟨a, x, y, rfl, ea, t1, t2⟩ := t.two
    rw [t1.str_inv] at ea
    refine g_ixT (.of ea) (atI_of (by decide) rfl) (g_inK T (r := false) (by decide +kernel) ?_)
    walk_at "go"
    refine g_F rfl ?_
    walk_at "go"
    refine g_ixT (.of ea) (atI_of (by decide) rfl) ?_
    walk_at "go"
    refine g_F (by decide +kernel) ?_
    walk_at "go"
    intro l H1 nl el s1
    exact q l [] H1 nl el .nil s1
  | name n =>
    obtain ⟨a, x, y, rfl, ea, t1, t2⟩ := t.two
    rw [t1.str_inv] at ea
    refine g_ixT (.of ea) (atI_of (by decide) rfl) (g_inK T (r := false) (by decide +kernel) ?_)
    walk_at "go"
    refine g_F rfl ?_
    walk_at "go"
    refine g_ixT (.of ea) (atI_of (by decide) rfl) ?_
    walk_at "go"
    refine g_F (by decide +kernel) ?_
    walk_at "go"
    intro l H1 nl el s1
    exact q l [] H1 nl el .nil s1
  | fn n =>
    obtain ⟨a, x, y, rfl, ea, t1, t2⟩ := t.two
    rw [t1.str_inv] at ea
    refine g_ixT (.of ea) (atI_of (by decide) rfl) (g_inK T (r := false) (by decide +kernel) ?_)
    walk_at "go"
    refine g_F rfl ?_
    walk_at "go"
    refine g_ixT (.of ea) (atI_of (by decide) rfl) ?_
    walk_at "go"
    refine g_F (by decide +kernel) ?_
    walk_at "go"
    intro l H1 nl el s1
    exact q l [] H1 nl el .nil s1
  | one k b =>
    obtain ⟨a, x, y, rfl, ea, t1, t2⟩ := t.two
    rw [t1.str_inv] at ea
    refine g_ixT (.of ea) (atI_of (by decide) rfl) (g_inK T (r := true) (by cases k <;> decide +kernel) ?_)
    walk_at "go"
    refine g_T rfl ?_
    walk_at "go"
    refine g_slT (.of ea) (not_whole (by simp)) fun p1 H1 n1 e1 s1 => ?_
    walk_at "go"
    refine g_listT (.of e1) fun l H2 nl el s2 => ?_
    exact q l _ H2 (s1.free nl) el (.cons ((t2.mono (Same.tk s1)).mono (Same.tk s2)) .nil) (s1.trans s2)
  | two k b c =>
    obtain ⟨a, x, y, z, rfl, ea, t1, t2, t3⟩ := t.three
    rw [t1.str_inv] at ea
    refine g_ixT (.of ea) (atI_of (by decide) rfl) (g_inK T (r := true) (by cases k <;> decide +kernel) ?_)
    walk_at "go"
    refine g_T rfl ?_
    walk_at "go"
    refine g_slT (.of ea) (not_whole (by simp)) fun p1 H1 n1 e1 s1 => ?_
    walk_at "go"
    refine g_listT (.of e1) fun l H2 nl el s2 => ?_
    have k2 : Tk H H2 := Same.tk (s1.trans s2)
    exact q l _ H2 (s1.free nl) el (.cons (t2.mono k2) (.cons (t3.mono k2) .nil)) (s1.trans s2)
  | whn b c d =>
    obtain ⟨a, xs, rfl, ea, h1⟩ := t.tup_inv
    obtain ⟨x1, r1, rfl, t1, h1⟩ := h1.cons_inv
    obtain ⟨x2, r1, rfl, t2, h1⟩ := h1.cons_inv
    obtain ⟨x3, r1, rfl, t3, h1⟩ := h1.cons_inv
    obtain ⟨x4, r1, rfl, t4, h1⟩ := h1.cons_inv
    rw [h1.nil_inv, t1.str_inv] at ea
    refine g_ixT (.of ea) (atI_of (by decide) rfl) (g_inK T (r := true) (by decide +kernel) ?_)
    walk_at "go"
    refine g_T rfl ?_
    walk_at "go"
    refine g_slT (.of ea) (not_whole (by simp)) fun p1 H1 n1 e1 s1 => ?_
    walk_at "go"
    refine g_listT (.of e1) fun l H2 nl el s2 => ?_
    have k2 : Tk H H2 := Same.tk (s1.trans s2)
    exact q l _ H2 (s1.free nl) el (.cons (t2.mono k2) (.cons (t3.mono k2) (.cons (t4.mono k2) .nil))) (s1.trans s2)
  | letp r b =>
    obtain ⟨a, x, y, z, rfl, ea, t1, t2, t3⟩ := t.three
    rw [t1.str_inv] at ea
    refine g_ixT (.of ea) (atI_of (by decide) rfl) (g_inK T (r := false) (by decide +kernel) ?_)
    walk_at "go"
    refine g_F rfl ?_
    walk_at "go"
    refine g_ixT (.of ea) (atI_of (by decide) rfl) ?_
    walk_at "go"
    refine g_T (by decide +kernel) ?_
    walk_at "go"
    refine g_seqT ?_
    walk_at "go"
    refine g_ixT (.of ea) (atI_of (by decide) rfl) ?_
    obtain ⟨ra, rs, rfl, er, tr⟩ := t2.tup_inv
    refine g_isT (.of er) fun dn hdn => ?_
    have hlen : rs.length = r.parts.length := by rw [tr.length, r.len]
    have hfew : r.parts.length ≤ 60 := by
      have h1 := r.sz
      have h2 := sz_len r.parts
      have h3 : 1 + (r.size + b.size) ≤ 60 := hz
      omega
    refine lc_any rs.length (fun i acc H' => Tps H' acc ((r.parts.take i).map Part.data) ∧ Same H H' ∧ acc.length = i) hdn
      (fun H' _ s => ⟨.nil, s, rfl⟩) (fun i acc H' hi ⟨_, s, _⟩ => ⟨_, _, .of (s _ _ er), List.getElem?_eq_getElem hi⟩) (fun acc H' ⟨_, s, _⟩ => ⟨_, .of (s _ _ er), Nat.le_refl _⟩) ?_ ?_
    · rintro i x acc _ H5 hi hl ⟨ta, s5, hacc⟩ hd5 ⟨rfl, hx⟩
      obtain ⟨d, hd, tx⟩ := tr.get (hx _ (.of (s5 _ _ er)))
      obtain ⟨nm, p, hnm, hp, rfl⟩ := Rows.get hd
      obtain ⟨a2, u1, u2, rfl, ea2, _, tp⟩ := tx.two
      refine g_un2 (s5 _ _ ea2) ?_
      refine ⟨rfl, ?_⟩
      walk_at "go"
      refine g_T rfl ?_
      walk_at "go"
      refine lc_step hd5 hl (by show _ < 16777216; omega) fun H6 e6 c6 => ?_
      refine ⟨?_, Same.chg s5 hdn c6, by simp [hacc]⟩
      rw [List.take_add_one, hp, List.map_append]
      exact Tps.append (ta.mono (c6.tkl hd5)) (.one (((tp.mono (Same.tk s5))).mono (c6.tkl hd5)))
    rintro us H5 hd5 ⟨tu, s5, hacc⟩
    rw [hlen, List.take_length] at tu
    walk_at "go"
    refine g_ixT (.of (s5 _ _ ea)) (atI_of (by decide) rfl) ?_
    walk_at "go"
    intro l6 H6 nl6 el6 s6
    walk_at "go"
    refine g_addL (s6 _ _ hd5) el6 (by rw [hacc, hlen]; show _ + 1 ≤ 16777216; omega) fun l H7 nl el s7 => ?_
    have s07 : Same H H7 := s5.trans (s6.trans s7)
    refine q l _ H7 (s5.free (s6.free nl)) el ?_ s07
    show Tps H7 _ ((r.parts ++ [b]).map Part.data)
    rw [List.map_append]
    exact Tps.append (tu.mono (Same.tk (s6.trans s7))) (.one (t3.mono (Same.tk s07)))
/-- [x for x in t] of a tuple of parts -/
theorem cut_list {K : PySem.W.Frag} {H : Hp} {Q : VK} {a : Addr} {xs : List V} {ps : List Part} {x0 : Addr} {x1 x2 : Option V} (ea : H a = some (.tup xs)) (t : Tps H xs (ps.map Part.data)) (hl : ps.length ≤ 60)
    (q : ∀ (l : Addr) (us : List V) (H' : Hp), H l = none → H' l = some (.lst us) → Tps H' us (ps.map Part.data) → Same H H' → Q (.ref l) H') :
    ∃ a', V.ref a = .ref a' ∧ (∃ xs, SqT K H a' xs) ∧ LcR (Itt K a') (gName 2) tYes (tVar 2) [2] [some (.ref x0), x1, x2] H fun D H => Q (.ref D) H := by
  refine g_isT (.of ea) fun dn hdn => ?_
  have hlen : xs.length = ps.length := by rw [t.length, List.length_map]
  refine lc_any xs.length (fun i acc H' => acc = xs.take i ∧ Same H H') hdn
    (fun H' _ s => ⟨rfl, s⟩) (fun i acc H' hi ⟨_, s⟩ => ⟨_, _, .of (s _ _ ea), List.getElem?_eq_getElem hi⟩) (fun acc H' ⟨_, s⟩ => ⟨_, .of (s _ _ ea), Nat.le_refl _⟩) ?_ ?_
  · rintro i x acc _ H5 hi hl' ⟨rfl, s5⟩ hd5 ⟨rfl, hx⟩
    have hx' := hx _ (.of (s5 _ _ ea))
    walk_at "go"
    refine ⟨rfl, ?_⟩
    walk_at "go"
    refine g_T rfl ?_
    walk_at "go"
    refine lc_step hd5 hl' (by show _ < 16777216; omega) fun H6 e6 c6 => ?_
    exact ⟨by rw [List.take_add_one, hx']; rfl, Same.chg s5 hdn c6⟩
  rintro us H5 hd5 ⟨rfl, s5⟩
  rw [List.take_length] at hd5
  exact q dn xs H5 hdn hd5 (t.mono (Same.tk s5)) s5

/-! ### the parts in order -/
def spOrder : Sp := fun vs H Q _ => ∃ (v : V) (p : Part), vs = [v] ∧ Tp H v p.data ∧ p.good ∧ p.size ≤ 60 ∧ ∀ (l : Addr) (us : List V) (H' : Hp), H l = none → H' l = some (.lst us) → Tps H' us (p.all.map Part.data) → Same H H' → Q (.ref l) H'
theorem pure_order {K : PySem.W.Frag} {w : World} : PureOk 1 spOrder (t_in_order K w spKids) 4 := by
  refine ⟨fun vs H Q E ⟨_, _, e, _⟩ => by rw [e]; rfl, ?_⟩
  rintro vs H Q E ⟨v, p, rfl, t, hg, hz, q⟩
  show t_in_order K w _ _ [some v, none, none, none] H
  unfold t_in_order
  walk_at "go"
  intro fl H1 nf ef s1
  walk_at "go"
  intro pl H2 np ep s2
  walk_at "go"
  have hfp : fl ≠ pl := ne_of_none ef np
  refine while_any (fun m σ H' => ∃ (x3 : Option V) (us vs : List V) (fs ps : List Part), σ = [some v, some (.ref fl), some (.ref pl), x3] ∧ H' fl = some (.lst us) ∧ H' pl = some (.lst vs) ∧ Tps H' us (fs.map Part.data) ∧ Tps H' vs (ps.map Part.data) ∧
      allGood ps ∧ fs ++ ps.reverse.flatMap Part.all = p.all ∧ fs.length + sz ps = p.size ∧ m = sz ps ∧ Same H H') (p.size + 0)
    ⟨none, [], [v], [], [p], rfl, s2 _ _ ef, ep, .nil, .cons (t.mono (Same.tk (s1.trans s2))) .nil, fun x hx => by rw [List.mem_singleton.mp hx]; exact hg, by simp, by show 0 + (p.size + 0) = _; omega, rfl, s1.trans s2⟩ ?_
  rintro m σ H3 ⟨x3, us, vs, fs, ps, rfl, hf, hp, tf, tp, hgs, hall, hn, rfl, s3⟩
  walk_at "go"
  intro e4 H4 ne4 ee4 s4
  have hg4 := shaped_parts hgs
  refine g_neLL (s4 _ _ hp) ee4 (tp.mono (Same.tk s4)) .nil hg4 shaped_nil ?_
  rw [eqv_nil]
  walk_at "go"
  refine g_ite (fun hne => ?_) (fun hne => ?_)
  · refine g_turn ?_
    obtain ⟨ps', p1, rfl⟩ : ∃ ps' p1, ps = ps' ++ [p1] := by
      have : ps ≠ [] := by rintro rfl; simp at hne
      exact ⟨ps.dropLast, ps.getLast this, (List.dropLast_concat_getLast this).symm⟩
    have hg1 : p1.good := hgs p1 (by simp)
    have hz1 : p1.size ≤ 60 := by
      have := sz_mem (q := p1) (a := ps' ++ [p1]) (by simp)
      omega
    rw [List.map_append] at tp
    obtain ⟨vs', v1, rfl, tp', t1⟩ := tp.snoc_inv
    have hp4 := s4 _ _ hp
    walk_at "go"
    refine g_tyl (.of hp4) ?_
    refine g_pop hp4 fun H5 e5 c5 => ?_
    walk_at "go"
    have s5 : Chg pl H H5 := fun b o n e => c5 b o n (s4 b o (s3 b o e))
    have k5 : Tk H3 H5 := (Same.tk s4).trans (c5.tkl hp4)
    have hf5 := c5 _ _ hfp (s4 _ _ hf)
    refine g_tyl (.of hf5) ?_
    walk_at "go"
    have hul : us.length = fs.length := by rw [tf.length, List.length_map]
    refine g_append hf5 (by rw [hul]; show _ < 16777216; omega) fun H6 e6 c6 => ?_
    walk_at "go"
    have k6 : Tk H3 H6 := k5.trans (c6.tkl hf5)
    have hp6 := c6 _ _ hfp.symm e5
    refine g_tyl (.of hp6) ?_
    walk_at "go"
    refine ⟨v1, p1, rfl, t1.mono k6, hg1, hz1, fun l7 ks H7 nl7 el7 tk7 s7 => ?_⟩
    refine g_revL (.of el7) ?_
    intro l8 H8 nl8 el8 s8
    have tk8 : Tps H8 ks.reverse (p1.kids.map Part.data).reverse := (tk7.mono (Same.tk s8)).reverse
    have hp8 := s8 _ _ (s7 _ _ hp6)
    have hsz := p1.sz_kids
    have hkl : ks.length = p1.kids.length := by rw [tk7.length, List.length_map]
    have hvl : vs'.length = ps'.length := by rw [tp'.length, List.length_map]
    have h1 := sz_len p1.kids
    have h2 := sz_len ps'
    have h3 := sz_app ps' [p1]
    have h4 : sz [p1] = p1.size := Nat.add_zero _
    walk_at "go"
    refine g_extend hp8 el8 (by rw [List.length_reverse, hkl, hvl]; show _ ≤ 16777216; omega) fun H9 e9 c9 => ?_
    walk_at "go"
    have k9 : Tk H8 H9 := c9.tkl hp8
    have k39 : Tk H3 H9 := (k6.trans (Same.tk (s7.trans s8))).trans k9
    have fl9 := c9 _ _ hfp (s8 _ _ (s7 _ _ e6))
    have npl : H pl = none := s1.free np
    have nfl : H fl = none := nf
    refine ⟨sz (ps' ++ p1.kids.reverse), by rw [sz_app, sz_rev]; omega, _, _, _, fs ++ [p1], ps' ++ p1.kids.reverse, rfl, fl9, e9, ?_, ?_, ?_, ?_, ?_, rfl, ?_⟩
    · rw [List.map_append]
      exact Tps.append (tf.mono k39) (.one (t1.mono k39))
    · rw [List.map_append, List.map_reverse]
      exact Tps.append (tp'.mono k39) (tk8.mono k9)
    · intro x hx
      rcases List.mem_append.mp hx with hx | hx
      · exact hgs x (List.mem_append.mpr (.inl hx))
      · exact hg1.kids x (List.mem_reverse.mp hx)
    · rw [← hall, List.reverse_append, List.reverse_append, List.reverse_reverse, List.flatMap_append, List.append_assoc]
      show fs ++ (p1 :: (p1.kids.flatMap Part.all ++ _)) = fs ++ (p1 :: ps'.reverse).flatMap Part.all
      rw [List.flatMap_cons, p1.all_kids, List.cons_append]
    · rw [sz_app, sz_rev, List.length_append]
      show _ + 1 + _ = _
      omega
    · exact fun b o e => c9 b o (ne_of_none e npl) (s8 b o (s7 b o (c6 b o (ne_of_none e nfl) (s5 b o (ne_of_none e npl) e))))
  · walk_at "go"
    have hps : ps = [] := by
      cases ps with
      | nil => rfl
      | cons a b => simp at hne
    subst hps
    rw [List.reverse_nil, List.flatMap_nil, List.append_nil] at hall
    rw [hall] at tf
    exact q fl us H4 nf (s4 _ _ hf) (tf.mono (Same.tk s4)) (s3.trans s4)
def spMany : Sp := fun vs H Q _ => ∃ (v : V) (p : Part), vs = [v] ∧ Tp H v p.data ∧ p.good ∧ p.size ≤ 60 ∧ ∀ (H' : Hp), Same H H' → Q (.int p.size) H'

/-! ### programs' rows -/
theorem Part.fine.good {fs sc : List Str} {p : Part} (h : p.fine fs sc) : p.good := ⟨⟨fs, sc, h.ok⟩, h.deep⟩
def Prog.bodies (P : Prog) : List Part := P.fs.map (·.body) ++ [P.asked]
theorem Prog.fine.goods {P : Prog} (h : P.fine) : ∀ p ∈ P.bodies, p.good ∧ p.size ≤ 60 := by
  intro p hp
  rcases List.mem_append.mp hp with hp | hp
  · obtain ⟨f, hf, rfl⟩ := List.mem_map.mp hp
    exact ⟨(h.fs f hf).body.good, (h.fs f hf).body.size⟩
  · rw [List.mem_singleton.mp hp]
    exact ⟨h.asked.good, h.asked.size⟩
theorem sz_le {k : Nat} : ∀ {a : List Part}, (∀ p ∈ a, p.size ≤ k) → sz a ≤ k * a.length
  | [], _ => Nat.zero_le _
  | p :: a, h => by
    have h1 := h p (by simp)
    have h2 := sz_le fun q hq => h q (List.mem_cons_of_mem _ hq)
    show p.size + sz a ≤ k * (a.length + 1)
    rw [Nat.mul_succ]
    omega
theorem Prog.fine.total {P : Prog} (h : P.fine) : sz P.bodies ≤ 540 := by
  have h1 := sz_le (k := 60) fun p hp => (h.goods p hp).2
  have h2 : P.bodies.length = P.fs.length + 1 := by
    show (P.fs.map _ ++ [_]).length = _
    rw [List.length_append, List.length_map]
    rfl
  have h3 := h.few
  omega
theorem Tp.prog {H : Hp} {v : V} {P : Prog} (h : Tp H v P.data) : ∃ a b u vs, v = .ref a ∧ H a = some (.tup [.ref b, u]) ∧ H b = some (.tup vs) ∧ Tps H vs (P.fs.map Fn1.data) ∧ Tp H u P.asked.data := by
  obtain ⟨a, x, u, rfl, ha, h1, h2⟩ := h.two
  obtain ⟨b, vs, rfl, hb, h3⟩ := h1.tup_inv
  exact ⟨a, b, u, vs, rfl, ha, hb, h3, h2⟩
theorem Tp.fn1 {H : Hp} {v : V} {f : Fn1} (h : Tp H v f.data) : ∃ a b u, v = .ref a ∧ H a = some (.tup [.str f.name, .ref b, u]) ∧ H b = some (.tup (f.things.map V.str)) ∧ Tp H u f.body.data := by
  obtain ⟨a, x, y, u, rfl, ha, h1, h2, h3⟩ := h.three
  obtain ⟨b, vs, rfl, hb, h4⟩ := h2.tup_inv
  have : vs = f.things.map V.str := by
    have : ∀ (ss : List Str) (vs : List V), Tps H vs (ss.map PyData.str) → vs = ss.map V.str := by
      intro ss
      induction ss with
      | nil => intro vs h; exact h.nil_inv
      | cons s ss ih =>
        intro vs h
        obtain ⟨v, us, rfl, hv, hu⟩ := Tps.cons_inv (ds := ss.map PyData.str) h
        rw [hv.str_inv, ih us hu]
        rfl
    exact this _ _ h4
  subst this
  rw [h1.str_inv] at ha
  exact ⟨a, b, u, rfl, ha, hb, h3⟩
def spLaw (K : PySem.W.Frag) : Sp := fun vs H Q _ => ∃ (a : Addr) (ns : List Int), vs = [.ref a] ∧ SqL K H a (ns.map V.int) ∧ ns.length ≤ 63 ∧ ∀ H', Q (.bl true) H'
/-- drawn programs -/
def spRight : Sp := fun vs H Q _ => ∃ (v : V) (P : Prog), vs = [v] ∧ Tp H v P.data ∧ P.fine ∧ ∀ H' : Hp, Same H H' → Q (.bl true) H'

/-! ### numbers, things, wants of functions -/
/-- f is the j-th function's name, or none is and j is how many there are -/
def NumAt (P : Prog) (f : Str) (j : Nat) : Prop := P.names[j]? = some f ∨ (f ∉ P.names ∧ j = P.names.length)
def spNum : Sp := fun vs H Q _ => ∃ (v : V) (P : Prog) (f : Str) (j : Nat), vs = [v, .str f] ∧ Tp H v P.data ∧ P.fine ∧ NumAt P f j ∧ ∀ H' : Hp, Same H H' → Q (.int j) H'
/-- the things of the function f -/
def ThingsAt (P : Prog) (f : Str) (ts : List Str) : Prop := (∃ (j : Nat) (fn : Fn1), P.fs[j]? = some fn ∧ fn.name = f ∧ ts = fn.things) ∨ (f ∉ P.names ∧ ts = [])
def spThings : Sp := fun vs H Q _ => ∃ (v : V) (P : Prog) (f : Str) (ts : List Str), vs = [v, .str f] ∧ Tp H v P.data ∧ P.fine ∧ ThingsAt P f ts ∧ ∀ (a : Addr) (H' : Hp), H' a = some (.tup (ts.map V.str)) → Same H H' → Q (.ref a) H'
def spWants : Sp := fun vs H Q _ => ∃ (v : V) (P : Prog) (f : Str) (ts : List Str), vs = [v, .str f] ∧ Tp H v P.data ∧ P.fine ∧ ThingsAt P f ts ∧ ∀ (H' : Hp), Same H H' → Q (.int ts.length) H'

/-! ### parts by their words -/
def Part.word : Part → Str
  | .num _ => "number"
  | .name _ => "name"
  | .fn _ => "fun"
  | .one k _ => k.word
  | .two k _ _ => k.word
  | .whn _ _ _ => "when"
  | .letp _ _ => "let"
  | .shut _ => "shut"
def Part.args : Part → List PyData
  | .num n => [.int n]
  | .name x => [.str x]
  | .fn f => [.str f]
  | .one _ a => [a.data]
  | .two _ a b => [a.data, b.data]
  | .whn a b c => [a.data, b.data, c.data]
  | .letp r a => [.tuple r.datas, a.data]
  | .shut a => [a.data]
theorem Part.data_eq (p : Part) : p.data = .tuple (.str p.word :: p.args) := by cases p <;> rfl
/-- the parts that are things of a part's tuple -/
def Part.subs : Part → List Part
  | .one _ a => [a]
  | .two _ a b => [a, b]
  | .whn a b c => [a, b, c]
  | .shut a => [a]
  | _ => []
def plainWord (x : Str) : Prop := x ∉ [("number" : Str), "fun", "let", "name"]
theorem Part.args_subs {p : Part} (h : plainWord p.word) : p.args = p.subs.map Part.data := by
  cases p with
  | num n => exact absurd (show ("number" : Str) ∈ [("number" : Str), "fun", "let", "name"] from by simp) h
  | name n => exact absurd (show ("name" : Str) ∈ [("number" : Str), "fun", "let", "name"] from by simp) h
  | fn n => exact absurd (show ("fun" : Str) ∈ [("number" : Str), "fun", "let", "name"] from by simp) h
  | letp r a => exact absurd (show ("let" : Str) ∈ [("number" : Str), "fun", "let", "name"] from by simp) h
  | _ => rfl
theorem Tp.part {H : Hp} {v : V} {p : Part} (h : Tp H v p.data) : ∃ a xs, v = .ref a ∧ H a = some (.tup (.str p.word :: xs)) ∧ Tps H xs p.args := by
  rw [p.data_eq] at h
  obtain ⟨a, xs, rfl, h1, h2⟩ := h.tup_inv
  obtain ⟨x, us, rfl, hx, hu⟩ := h2.cons_inv
  rw [hx.str_inv] at h1
  exact ⟨a, us, rfl, h1, hu⟩
theorem word_give {p : Part} (h : p.word = "give") : ∃ a b, p = .two .give a b := by
  cases p with
  | two k a b =>
    cases k with
    | give => exact ⟨a, b, rfl⟩
    | _ => exact absurd h (by simp only [Part.word, K1.word, K2.word]; decide)
  | one k a => cases k <;> exact absurd h (by simp only [Part.word, K1.word, K2.word]; decide)
  | _ => exact absurd h (by simp only [Part.word, K1.word, K2.word]; decide)
theorem word_fun {p : Part} (h : p.word = "fun") : ∃ f, p = .fn f := by
  cases p with
  | fn f => exact ⟨f, rfl⟩
  | two k a b => cases k <;> exact absurd h (by simp only [Part.word, K1.word, K2.word]; decide)
  | one k a => cases k <;> exact absurd h (by simp only [Part.word, K1.word, K2.word]; decide)
  | _ => exact absurd h (by simp only [Part.word, K1.word, K2.word]; decide)
mutual
/-- how many parts, those within shut ones too -/
def Part.big : Part → Nat
  | .num _ => 1
  | .name _ => 1
  | .fn _ => 1
  | .one _ a => 1 + a.big
  | .two _ a b => 1 + (a.big + b.big)
  | .whn a b c => 1 + (a.big + (b.big + c.big))
  | .letp r a => 1 + (r.big + a.big)
  | .shut a => 1 + a.big
def Rows.big : Rows → Nat
  | .nil => 0
  | .cons _ a r => a.big + r.big
end
def bsum : List Part → Nat
  | [] => 0
  | p :: r => p.big + bsum r
theorem bsum_app : ∀ a b : List Part, bsum (a ++ b) = bsum a + bsum b
  | [], b => by show bsum b = 0 + bsum b; omega
  | p :: a, b => by
    show p.big + bsum (a ++ b) = p.big + bsum a + bsum b
    rw [bsum_app a b]
    omega
theorem Part.big_pos : ∀ p : Part, 1 ≤ p.big
  | .num _ => Nat.le_refl _
  | .name _ => Nat.le_refl _
  | .fn _ => Nat.le_refl _
  | .one _ _ => Nat.le_add_right _ _
  | .two _ _ _ => Nat.le_add_right _ _
  | .whn _ _ _ => Nat.le_add_right _ _
  | .letp _ _ => Nat.le_add_right _ _
  | .shut _ => Nat.le_add_right _ _
theorem bsum_len : ∀ a : List Part, a.length ≤ bsum a
  | [] => Nat.le_refl _
  | p :: a => by
    have := bsum_len a
    have := p.big_pos
    show a.length + 1 ≤ p.big + bsum a
    omega
theorem bsum_mem {q : Part} : ∀ {a : List Part}, q ∈ a → q.big ≤ bsum a
  | p :: a, h => by
    show q.big ≤ p.big + bsum a
    rcases List.mem_cons.mp h with rfl | h
    · omega
    · have := bsum_mem h
      omega
theorem Part.big_subs {p : Part} (h : plainWord p.word) : p.big = 1 + bsum p.subs := by
  cases p with
  | num n => rfl
  | name n => rfl
  | fn n => rfl
  | letp r a => exact absurd (show ("let" : Str) ∈ [("number" : Str), "fun", "let", "name"] from by simp) h
  | one k a => show 1 + a.big = 1 + (a.big + 0); omega
  | two k a b => show 1 + (a.big + b.big) = 1 + (a.big + (b.big + 0)); omega
  | whn a b c => show 1 + (a.big + (b.big + c.big)) = 1 + (a.big + (b.big + (c.big + 0))); omega
  | shut a => show 1 + a.big = 1 + (a.big + 0); omega
mutual
/-- a part of which nothing is asked but that its functions are there; shut ones too -/
def Part.wf (fs : List Str) : Part → Prop
  | .num _ => True
  | .name _ => True
  | .fn f => f ∈ fs
  | .one _ a => a.wf fs
  | .two _ a b => a.wf fs ∧ b.wf fs
  | .whn a b c => a.wf fs ∧ b.wf fs ∧ c.wf fs
  | .letp r a => r.wf fs ∧ a.wf fs
  | .shut a => a.wf fs
def Rows.wf (fs : List Str) : Rows → Prop
  | .nil => True
  | .cons _ a r => a.wf fs ∧ r.wf fs
end
mutual
theorem Part.ok_wf {fs : List Str} : ∀ {p : Part} {sc : List Str}, p.ok fs sc → p.wf fs ∧ p.big = p.size
  | .num n, sc, h => ⟨trivial, rfl⟩
  | .name x, sc, h => ⟨trivial, rfl⟩
  | .fn x, sc, h => ⟨h.1, rfl⟩
  | .one k a, sc, h => by
    obtain ⟨h1, h2⟩ := Part.ok_wf (p := a) h
    exact ⟨h1, by show 1 + a.big = 1 + a.size; rw [h2]⟩
  | .two k a b, sc, h => by
    obtain ⟨h1, h2⟩ := Part.ok_wf (p := a) h.1
    obtain ⟨h3, h4⟩ := Part.ok_wf (p := b) h.2
    exact ⟨⟨h1, h3⟩, by show 1 + (a.big + b.big) = 1 + (a.size + b.size); rw [h2, h4]⟩
  | .whn a b c, sc, h => by
    obtain ⟨h1, h2⟩ := Part.ok_wf (p := a) h.1
    obtain ⟨h3, h4⟩ := Part.ok_wf (p := b) h.2.1
    obtain ⟨h5, h6⟩ := Part.ok_wf (p := c) h.2.2
    exact ⟨⟨h1, h3, h5⟩, by show 1 + (a.big + (b.big + c.big)) = 1 + (a.size + (b.size + c.size)); rw [h2, h4, h6]⟩
  | .letp r a, sc, h => by
    obtain ⟨h1, h2⟩ := Part.ok_wf (p := a) h.2.2.2.2
    obtain ⟨h3, h4⟩ := Rows.ok_wf (r := r) h.2.2.2.1
    exact ⟨⟨h3, h1⟩, by show 1 + (r.big + a.big) = 1 + (r.size + a.size); rw [h2, h4]⟩
  | .shut a, sc, h => h.elim
theorem Rows.ok_wf {fs : List Str} : ∀ {r : Rows} {sc : List Str}, r.ok fs sc → r.wf fs ∧ r.big = r.size
  | .nil, sc, h => ⟨trivial, rfl⟩
  | .cons x a r, sc, h => by
    obtain ⟨h1, h2⟩ := Part.ok_wf (p := a) h.1
    obtain ⟨h3, h4⟩ := Rows.ok_wf (r := r) h.2
    exact ⟨⟨h1, h3⟩, by show a.big + r.big = a.size + r.size; rw [h2, h4]⟩
end
theorem Part.wf_subs {fs : List Str} {p : Part} (h : p.wf fs) : ∀ q ∈ p.subs, q.wf fs := by
  cases p with
  | one k a => intro q hq; rw [List.mem_singleton.mp hq]; exact h
  | shut a => intro q hq; rw [List.mem_singleton.mp hq]; exact h
  | two k a b =>
    intro q hq
    simp only [Part.subs, List.mem_cons, List.not_mem_nil, or_false] at hq
    rcases hq with rfl | rfl
    · exact h.1
    · exact h.2
  | whn a b c =>
    intro q hq
    simp only [Part.subs, List.mem_cons, List.not_mem_nil, or_false] at hq
    rcases hq with rfl | rfl | rfl
    · exact h.1
    · exact h.2.1
    · exact h.2.2
  | _ => intro q hq; exact absurd hq (by simp [Part.subs])
/-- what stands ahead of a part's gives; the things that it is given, in their order -/
def Part.head : Part → Part
  | .two .give a _ => a.head
  | p => p
def Part.given : Part → List Part
  | .two .give a b => a.given ++ [b]
  | _ => []
theorem head_not {p : Part} (h : p.word ≠ "give") : p.head = p ∧ p.given = [] := by
  cases p with
  | two k a b =>
    cases k with
    | give => exact absurd rfl h
    | _ => exact ⟨rfl, rfl⟩
  | _ => exact ⟨rfl, rfl⟩
theorem head_word : ∀ (n : Nat) (p : Part), p.big ≤ n → p.head.word ≠ "give" := by
  intro n
  induction n with
  | zero => intro p h; have := p.big_pos; omega
  | succ n ih =>
    intro p h
    by_cases hw : p.word = "give"
    · obtain ⟨a, b, rfl⟩ := word_give hw
      have h1 : 1 + (a.big + b.big) ≤ n + 1 := h
      exact ih a (by omega)
    · rw [(head_not hw).1]
      exact hw
theorem Part.head_wf {fs : List Str} : ∀ (n : Nat) (p : Part), p.big ≤ n → p.wf fs → p.head.wf fs := by
  intro n
  induction n with
  | zero => intro p h; have := p.big_pos; omega
  | succ n ih =>
    intro p h hw'
    by_cases hw : p.word = "give"
    · obtain ⟨a, b, rfl⟩ := word_give hw
      have h1 : 1 + (a.big + b.big) ≤ n + 1 := h
      exact ih a (by omega) hw'.1
    · rw [(head_not hw).1]
      exact hw'
/-- how many things f wants -/
def Prog.wantsOf (P : Prog) (f : Str) : Nat := match P.fs.find? (fun g => decide (g.name = f)) with
  | some g => g.things.length
  | none => 0
theorem Prog.at_name {P : Prog} {f : Str} (h : f ∈ P.names) : ∃ (j : Nat) (fn : Fn1), P.fs[j]? = some fn ∧ fn.name = f ∧ P.wantsOf f = fn.things.length := by
  obtain ⟨g0, hg0, hn0⟩ := List.mem_map.mp h
  cases e : P.fs.find? (fun g => decide (g.name = f)) with
  | none =>
    have := List.find?_eq_none.mp e g0 hg0
    simp [hn0] at this
  | some g =>
    obtain ⟨j, hj⟩ := List.mem_iff_getElem?.mp (List.mem_of_find?_eq_some e)
    have h2 := List.find?_some e
    exact ⟨j, g, hj, of_decide_eq_true h2, by unfold Prog.wantsOf; rw [e]⟩
/-- is it a worth -/
def Part.worth (P : Prog) (p : Part) : Bool := decide (p.word ∈ [("number" : Str), "pair"]) || match p.head with
  | .fn f => decide (p.given.length < P.wantsOf f)
  | _ => false
theorem worth_fn {P : Prog} {p : Part} {f : Str} (h : p.head = .fn f) : p.worth P = decide (p.given.length < P.wantsOf f) := by
  unfold Part.worth
  rw [h]
  have : p.word ∉ [("number" : Str), "pair"] := by
    by_cases hw : p.word = "give"
    · rw [hw]; decide
    · rw [(head_not hw).1] at h
      rw [h]
      simp only [Part.word]
      decide
  rw [decide_eq_false this]
  rfl
theorem worth_no {P : Prog} {p : Part} (h : p.head.word ≠ "fun") : p.worth P = decide (p.word ∈ [("number" : Str), "pair"]) := by
  unfold Part.worth
  cases e : p.head with
  | fn f => rw [e] at h; exact absurd rfl h
  | _ => simp
/-- [x for x in t] of a tuple, whatever the slot is -/
theorem lc_copy {K : PySem.W.Frag} {H : Hp} {Qd : Addr → Hp → Prop} {a : Addr} {xs : List V} {i : Nat} {σ : L2.St} (h1 : ∀ x : V, ((wipe σ [i]).set i (some x))[i]? = some (some x)) (h2 : ∀ x : V, wipe ((wipe σ [i]).set i (some x)) [i] = wipe σ [i])
    (ea : H a = some (.tup xs)) (hl : xs.length ≤ 1000) (q : ∀ (l : Addr) (H' : Hp), H l = none → H' l = some (.lst xs) → Same H H' → Qd l H') :
    ∃ a', V.ref a = .ref a' ∧ (∃ xs, SqT K H a' xs) ∧ LcR (Itt K a') (gName i) tYes (tVar i) [i] σ H Qd := by
  refine g_isT (.of ea) fun dn hdn => ?_
  refine lc_any xs.length (fun j acc H' => acc = xs.take j ∧ Same H H') hdn
    (fun H' _ s => ⟨rfl, s⟩) (fun j acc H' hj ⟨_, s⟩ => ⟨_, _, .of (s _ _ ea), List.getElem?_eq_getElem hj⟩) (fun acc H' ⟨_, s⟩ => ⟨_, .of (s _ _ ea), Nat.le_refl _⟩) ?_ ?_
  · rintro j x acc _ H5 hj hl' ⟨rfl, s5⟩ hd5 ⟨rfl, hx⟩
    have hx' := hx _ (.of (s5 _ _ ea))
    refine g_name (σ' := (wipe σ [i]).set i (some x)) rfl ?_
    refine ⟨h2 x, ?_⟩
    refine g_yes (g_T rfl ?_)
    refine g_var (h1 x) ?_
    refine lc_step hd5 hl' (by show _ < 16777216; omega) fun H6 e6 c6 => ?_
    exact ⟨by rw [List.take_add_one, hx']; rfl, Same.chg s5 hdn c6⟩
  rintro us H5 hd5 ⟨rfl, s5⟩
  rw [List.take_length] at hd5
  exact q dn H5 hdn hd5 s5
/-- rows of a list -/
def Rows.of : List (Str × Part) → Rows
  | [] => .nil
  | q :: r => .cons q.1 q.2 (Rows.of r)
def rowD (q : Str × Part) : PyData := .tuple [.str q.1, q.2.data]
theorem Rows.of_datas : ∀ l : List (Str × Part), (Rows.of l).datas = l.map rowD
  | [] => rfl
  | q :: r => by
    show _ :: (Rows.of r).datas = _
    rw [Rows.of_datas r]
    rfl
theorem Rows.of_names : ∀ l : List (Str × Part), (Rows.of l).names = l.map (·.1)
  | [] => rfl
  | q :: r => by
    show _ :: (Rows.of r).names = _
    rw [Rows.of_names r]
    rfl
theorem Rows.of_wf {fs : List Str} : ∀ l : List (Str × Part), (∀ q ∈ l, q.2.wf fs) → (Rows.of l).wf fs
  | [], _ => trivial
  | q :: r, h => ⟨h q (by simp), Rows.of_wf r fun p hp => h p (List.mem_cons_of_mem _ hp)⟩
theorem Rows.of_big : ∀ l : List (Str × Part), (Rows.of l).big = bsum (l.map (·.2))
  | [] => rfl
  | q :: r => by
    show q.2.big + (Rows.of r).big = q.2.big + bsum _
    rw [Rows.of_big r]
/-- a pen's is no tuple -/
theorem pen_tup {H : Hp} {pen L b : Addr} {xs : List V} (h : PenAt H pen L) (e : H b = some (.tup xs)) : b ≠ pen := by
  obtain ⟨_, _, _, hp, _⟩ := h
  rintro rfl
  rw [hp] at e
  cases e
theorem pen_tk {H H' : Hp} {pen L : Addr} (h : PenAt H pen L) (c : ∀ b o, b ≠ pen → H b = some o → H' b = some o) : Tk H H' := fun b xs e => c b _ (pen_tup h e) e
/-! layable, so deep -/
def layD (k : Nat) (d : PyData) : Prop := PyData.canLay0 d = true ∧ PyData.depth d ≤ k
def Part.lk (k : Nat) (p : Part) : Prop := layD k p.data
theorem layAll_of : ∀ {ds : List PyData}, (∀ d ∈ ds, PyData.canLay0 d = true) → PyData.canLayAll0 ds = true
  | [], _ => rfl
  | d :: ds, h => by rw [PyData.canLayAll0, h d (by simp), layAll_of fun e he => h e (List.mem_cons_of_mem _ he)]; rfl
theorem depAll_of {k : Nat} : ∀ {ds : List PyData}, (∀ d ∈ ds, PyData.depth d ≤ k) → PyData.depthAll ds ≤ k
  | [], _ => by rw [PyData.depthAll]; omega
  | d :: ds, h => by
    have h1 := h d (by simp)
    have h2 := depAll_of fun e he => h e (List.mem_cons_of_mem _ he)
    rw [PyData.depthAll]
    omega
theorem layAll_mem : ∀ {ds : List PyData}, PyData.canLayAll0 ds = true → ∀ d ∈ ds, PyData.canLay0 d = true
  | e :: ds, h, d, hd => by
    rw [PyData.canLayAll0, Bool.and_eq_true] at h
    rcases List.mem_cons.mp hd with rfl | hd
    · exact h.1
    · exact layAll_mem h.2 d hd
theorem depAll_mem {k : Nat} : ∀ {ds : List PyData}, PyData.depthAll ds ≤ k → ∀ d ∈ ds, PyData.depth d ≤ k
  | e :: ds, h, d, hd => by
    rw [PyData.depthAll] at h
    rcases List.mem_cons.mp hd with rfl | hd
    · omega
    · exact depAll_mem (by omega) d hd
theorem layD.mono {j k : Nat} {d : PyData} (h : layD j d) (hjk : j ≤ k) : layD k d := ⟨h.1, Nat.le_trans h.2 hjk⟩
theorem Part.lk.mono {j k : Nat} {p : Part} (h : p.lk j) (hjk : j ≤ k) : p.lk k := layD.mono h hjk
theorem layD_tup {k : Nat} {ds : List PyData} (h : ∀ d ∈ ds, layD k d) : layD (k + 1) (.tuple ds) :=
  ⟨by rw [PyData.canLay0]; exact layAll_of fun d hd => (h d hd).1, by rw [PyData.depth]; have := depAll_of fun d hd => (h d hd).2; omega⟩
theorem layD_mem {k : Nat} {ds : List PyData} (h : layD k (.tuple ds)) : ∀ d ∈ ds, layD k d := by
  obtain ⟨h1, h2⟩ := h
  rw [PyData.canLay0] at h1
  rw [PyData.depth] at h2
  exact fun d hd => ⟨layAll_mem h1 d hd, depAll_mem (by omega) d hd⟩
theorem layD_str {x : Str} {k : Nat} (h : PyData.strOk x = true) : layD k (.str x) := ⟨by rw [PyData.canLay0]; exact h, by rw [PyData.depth]; omega⟩
theorem layD_int {n : Int} {k : Nat} : layD k (.int n) := ⟨by rw [PyData.canLay0], by rw [PyData.depth]; omega⟩
theorem layD_name {x : Str} {k : Nat} (h : isName x) : layD k (.str x) := ⟨canLay_name h, by rw [PyData.depth]; omega⟩
theorem word_ok (p : Part) : PyData.strOk p.word = true := by
  cases p with
  | one k a => exact lay_word1 k
  | two k a b => exact lay_word2 k
  | num n => show PyData.strOk "number" = true; decide +kernel
  | name n => show PyData.strOk "name" = true; decide +kernel
  | fn n => show PyData.strOk "fun" = true; decide +kernel
  | whn a b c => show PyData.strOk "when" = true; decide +kernel
  | letp r a => show PyData.strOk "let" = true; decide +kernel
  | shut a => show PyData.strOk "shut" = true; decide +kernel
theorem Part.lk_of {p : Part} {k : Nat} (h : ∀ d ∈ p.args, layD k d) : p.lk (k + 1) := by
  unfold Part.lk
  rw [p.data_eq]
  refine layD_tup fun d hd => ?_
  rcases List.mem_cons.mp hd with rfl | hd
  · exact layD_str (word_ok p)
  · exact h d hd
theorem Part.lk_subs {p : Part} {k : Nat} (hw : plainWord p.word) (h : p.lk k) : ∀ q ∈ p.subs, q.lk k := by
  intro q hq
  unfold Part.lk at h
  rw [p.data_eq, Part.args_subs hw] at h
  exact layD_mem h q.data (List.mem_cons_of_mem _ (List.mem_map.mpr ⟨q, hq, rfl⟩))
theorem Part.lk_num (n : Int) : (Part.num n).lk 1 := Part.lk_of (k := 0) fun d hd => by
  rw [List.mem_singleton.mp (show d ∈ [PyData.int n] from hd)]
  exact layD_int
theorem Part.lk_fn {f : Str} (h : isName f) : (Part.fn f).lk 1 := Part.lk_of (k := 0) fun d hd => by
  rw [List.mem_singleton.mp (show d ∈ [PyData.str f] from hd)]
  exact layD_name h
theorem Part.lk_shut {a : Part} {k : Nat} (h : a.lk k) : (Part.shut a).lk (k + 1) := Part.lk_of fun d hd => by
  rw [List.mem_singleton.mp (show d ∈ [a.data] from hd)]
  exact h
theorem Part.lk_two {a b : Part} {k : Nat} {c : K2} (h : a.lk k) (h2 : b.lk k) : (Part.two c a b).lk (k + 1) := Part.lk_of fun d hd => by
  have hd' : d ∈ [a.data, b.data] := hd
  simp only [List.mem_cons, List.not_mem_nil, or_false] at hd'
  rcases hd' with rfl | rfl
  · exact h
  · exact h2
theorem Part.lk_ok {fs sc : List Str} {p : Part} (h : p.ok fs sc) : p.lk (3 * p.deep) := Part.lay h
theorem shaped_lk {k : Nat} {ps : List Part} (h : ∀ p ∈ ps, p.lk k) (hk : k ≤ 63) : SeqAt.shaped (.list (ps.map Part.data)) = true :=
  shaped_list (k := k) (fun d hd => by obtain ⟨p, hp, rfl⟩ := List.mem_map.mp hd; exact (h p hp).1) (fun d hd => by obtain ⟨p, hp, rfl⟩ := List.mem_map.mp hd; exact (h p hp).2) hk
theorem cut_tail {x : V} {xs : List V} : cutV (x :: xs) (some 1) none = xs := by
  unfold cutV
  rw [HT.sIx_none, show (1 : Int) = ((1 : Nat) : Int) from rfl, HT.sIx_nat, List.length_cons, Nat.min_eq_left (by omega)]
  show xs.take _ = xs
  rw [List.take_of_length_le (by omega)]
theorem subs_few (p : Part) : p.subs.length ≤ 1000 := by
  cases p with
  | one k a => show 1 ≤ 1000; decide
  | two k a b => show 2 ≤ 1000; decide
  | whn a b c => show 3 ≤ 1000; decide
  | shut a => show 1 ≤ 1000; decide
  | _ => show 0 ≤ 1000; decide
/-- a part of the same kind, with other parts within -/
theorem same_kind {fs : List Str} {p : Part} (hw : plainWord p.word) (hs : p.word ≠ "shut") {qs : List Part} (hl : qs.length = p.kids.length) (hq : ∀ q ∈ qs, q.wf fs) : ∃ q : Part, q.data = .tuple (.str p.word :: qs.map Part.data) ∧ q.wf fs ∧ q.big = 1 + bsum qs := by
  cases p with
  | one k a =>
    match qs, hl with
    | [b], _ => exact ⟨.one k b, rfl, hq b (by simp), rfl⟩
  | two k a b =>
    match qs, hl with
    | [c, d], _ => exact ⟨.two k c d, rfl, ⟨hq c (by simp), hq d (by simp)⟩, rfl⟩
  | whn a b c =>
    match qs, hl with
    | [d, e, f], _ => exact ⟨.whn d e f, rfl, ⟨hq d (by simp), hq e (by simp), hq f (by simp)⟩, rfl⟩
  | shut a => exact absurd rfl hs
  | num n => exact absurd (show ("number" : Str) ∈ [("number" : Str), "fun", "let", "name"] from by simp) hw
  | name n => exact absurd (show ("name" : Str) ∈ [("number" : Str), "fun", "let", "name"] from by simp) hw
  | fn n => exact absurd (show ("fun" : Str) ∈ [("number" : Str), "fun", "let", "name"] from by simp) hw
  | letp r a => exact absurd (show ("let" : Str) ∈ [("number" : Str), "fun", "let", "name"] from by simp) hw
theorem subs_kids {p : Part} (hw : plainWord p.word) (hs : p.word ≠ "shut") : p.subs = p.kids := by
  cases p with
  | letp r a => exact absurd (show ("let" : Str) ∈ [("number" : Str), "fun", "let", "name"] from by simp) hw
  | shut a => exact absurd rfl hs
  | _ => rfl
theorem not_name {p : Part} (hw : plainWord p.word) : p.word ≠ "name" := fun e => hw (by rw [e]; simp)
theorem word_cases (p : Part) : (∃ n, p = .num n) ∨ (∃ x, p = .name x) ∨ (∃ f, p = .fn f) ∨ (∃ r a, p = .letp r a) ∨ (∃ a, p = .shut a) ∨ (plainWord p.word ∧ p.word ≠ "shut") := by
  cases p with
  | num n => exact .inl ⟨n, rfl⟩
  | name n => exact .inr (.inl ⟨n, rfl⟩)
  | fn n => exact .inr (.inr (.inl ⟨n, rfl⟩))
  | letp r a => exact .inr (.inr (.inr (.inl ⟨r, a, rfl⟩)))
  | shut a => exact .inr (.inr (.inr (.inr (.inl ⟨a, rfl⟩))))
  | one k a => exact .inr (.inr (.inr (.inr (.inr (by cases k <;> (simp only [plainWord, Part.word, K1.word]; decide))))))
  | two k a b => exact .inr (.inr (.inr (.inr (.inr (by cases k <;> (simp only [plainWord, Part.word, K2.word]; decide))))))
  | whn a b c => exact .inr (.inr (.inr (.inr (.inr (by simp only [plainWord, Part.word]; decide)))))
def Rows.list : Rows → List (Str × Part)
  | .nil => []
  | .cons x a r => (x, a) :: r.list
theorem Rows.list_datas : ∀ r : Rows, r.datas = r.list.map rowD
  | .nil => rfl
  | .cons x a r => by
    show _ :: r.datas = _ :: r.list.map rowD
    rw [Rows.list_datas r]
    rfl
theorem Rows.list_parts : ∀ r : Rows, r.parts = r.list.map (·.2)
  | .nil => rfl
  | .cons x a r => by
    show a :: r.parts = _
    rw [Rows.list_parts r]
    rfl
theorem Rows.list_names : ∀ r : Rows, r.names = r.list.map (·.1)
  | .nil => rfl
  | .cons x a r => by
    show x :: r.names = _
    rw [Rows.list_names r]
    rfl

/-! ### pens, parts: for the search -/
theorem ne_pen {H : Hp} {pen L a : Addr} (h : PenAt H pen L) (h' : Fr H a) : pen ≠ a := (h.ne h').1
theorem ne_penL {H : Hp} {pen L a : Addr} (h : PenAt H pen L) (h' : Fr H a) : L ≠ a := (h.ne h').2
theorem sz_take {ps : List Part} {i : Nat} {q : Part} (h : ps[i]? = some q) : sz (ps.take (i + 1)) = sz (ps.take i) + q.size := by
  rw [List.take_add_one, h, sz_app]
  show _ + (q.size + 0) = _
  omega
theorem Chg.to_pen {H H' : Hp} {pen L b : Addr} {xs : List V} (c : Chg pen H H') (hP : PenAt H pen L) (h : H b = some (.tup xs)) : H' b = some (.tup xs) := c b _ (pen_tup hP h) h
/-- a comprehension that draws -/
theorem lc_mapP {K : PySem.W.Frag} {H1 : Hp} {g : TG} {te : TE} {vs : List Nat} {σ : L2.St} {a : Addr} {xs : List V} {Qd : Addr → Hp → Prop} {pen L : Addr} (ea : H1 a = some (.tup xs)) (hl : xs.length ≤ 100000) (hP : PenAt H1 pen L) (F : Nat → V → Hp → Prop) (hF : ∀ i y H H', Tk H H' → F i y H → F i y H')
    (hs : ∀ (i : Nat) x H' (Nx : V → Hp → Prop), xs[i]? = some x → PenAt H' pen L → Chg pen H1 H' → (∀ y H4, PenAt H4 pen L → Chg pen H' H4 → F i y H4 → Nx y H4) → g x (wipe σ vs) H' fun σ2 H2 => wipe σ2 vs = wipe σ vs ∧ te σ2 H2 Nx)
    (hd : ∀ D (ys : List V) H', Fr H1 D → H' D = some (.lst ys) → ys.length = xs.length → (∀ (i : Nat) y, ys[i]? = some y → F i y H') → PenAt H' pen L → Chg pen H1 H' → Qd D H') : LcR (Itt K a) g tYes te vs σ H1 Qd := by
  intro D hD
  have hn := hP.ne hD
  have hap : a ≠ pen := pen_tup hP ea
  refine lc_any xs.length (fun i acc H' => acc.length = i ∧ (∀ (j : Nat) y, acc[j]? = some y → F j y H') ∧ PenAt H' pen L ∧ Chg pen H1 H') hD (fun H' _ s => ⟨rfl, by simp, hP.same s, .same s⟩)
    (fun i acc H' hi ⟨_, _, _, c⟩ => ⟨_, _, .of (c _ _ hap ea), List.getElem?_eq_getElem hi⟩) (fun acc H' ⟨_, _, _, c⟩ => ⟨_, .of (c _ _ hap ea), Nat.le_refl _⟩) ?_ ?_
  · rintro i x acc _ H' hi hla ⟨ha, hf, p2, c2⟩ hd2 ⟨rfl, hx⟩
    refine hs i x _ _ (hx _ (.of (c2 _ _ hap ea))) p2 c2 fun y H4 p4 c4 f4 => ?_
    have ed4 := c4 _ _ hn.1.symm hd2
    refine lc_step ed4 hla (by show _ < 16777216; omega) fun H5 e5 c5 => ?_
    have k5 : Tk H4 H5 := c5.tkl ed4
    have k4 : Tk H' H4 := p2.tk c4
    refine ⟨by rw [List.length_append, ha]; rfl, fun j z hz => ?_, p4.chg c5 hn.1 hn.2, (c2.trans c4).fresh hD c5⟩
    by_cases hj : j < acc.length
    · rw [List.getElem?_append_left hj] at hz
      exact hF _ _ _ _ (k4.trans k5) (hf j z hz)
    · have hj2 : j < (acc ++ [y]).length := (List.getElem?_eq_some_iff.mp hz).1
      rw [List.length_append, List.length_singleton] at hj2
      have : j = acc.length := by omega
      subst this
      rw [List.getElem?_append_right (Nat.le_refl _), Nat.sub_self] at hz
      cases hz
      rw [ha]
      exact hF _ _ _ _ k5 f4
  · rintro acc H' hd2 ⟨ha, hf, p2, c2⟩
    exact hd D acc H' hD hd2 ha hf p2 c2

local macro_rules | `(tactic| walk_at "at") => `(tactic| first
  | assumption
  | ((with_reducible refine Same.to (H := ?gh) ?gs ?gt); (case gs => assumption); walk_at "at")
  | ((with_reducible refine Chg.to_pen (H := ?gh) (pen := ?ga) (L := ?gl) (xs := ?gx) ?gs ?gp ?gt); (case gs => assumption); (case gp => walk_at "pen0"); (case gt => walk_at "at"))
  | ((with_reducible refine Chg.to (H := ?gh) (a := ?ga) ?gs ?gt ?gn); (case gs => assumption); (case gn => walk_at "ne"); (case gt => walk_at "at")))
local macro_rules | `(tactic| walk_at "free") => `(tactic| first
  | assumption
  | ((with_reducible refine Same.free (H' := ?gh) ?gs ?gt); (case gs => assumption); walk_at "free")
  | ((with_reducible refine Chg.free (H' := ?gh) (a := ?ga) ?gs ?gn ?gt); (case gs => assumption); (case gn => walk_at "ne"); walk_at "free"))
local macro_rules | `(tactic| walk_at "ne") => `(tactic| first
  | assumption
  | (refine Ne.symm ?gt; assumption)
  | ((refine ne_fr (H := ?gh) (o := ?go) ?g1 ?g2); (case g2 => assumption); (case g1 => walk_at "at"))
  | ((refine Ne.symm (ne_fr (H := ?gh) (o := ?go) ?g1 ?g2)); (case g2 => assumption); (case g1 => walk_at "at"))
  | ((refine ne_pen (H := ?gh) (L := ?gl) ?g1 ?g2); (case g2 => assumption); (case g1 => walk_at "pen0"))
  | ((refine ne_penL (H := ?gh) (pen := ?gl) ?g1 ?g2); (case g2 => assumption); (case g1 => walk_at "pen0"))
  | ((refine Ne.symm (ne_pen (H := ?gh) (L := ?gl) ?g1 ?g2)); (case g2 => assumption); (case g1 => walk_at "pen0"))
  | ((refine Ne.symm (ne_penL (H := ?gh) (pen := ?gl) ?g1 ?g2)); (case g2 => assumption); (case g1 => walk_at "pen0")))
local macro_rules | `(tactic| walk_at "pen0") => `(tactic| first
  | assumption
  | ((with_reducible refine PenAt.same (H := ?gh) ?gt ?gs); (case gs => assumption); walk_at "pen0"))
local macro_rules | `(tactic| walk_at "pen") => `(tactic| first
  | assumption
  | ((with_reducible refine PenAt.same (H := ?gh) ?gt ?gs); (case gs => assumption); walk_at "pen")
  | ((with_reducible refine PenAt.chg (H := ?gh) (d := ?gd) ?gt ?gs ?g1 ?g2); (case gs => assumption); (case g1 => walk_at "ne"); (case g2 => walk_at "ne"); walk_at "pen"))
local macro_rules | `(tactic| walk_at "tk") => `(tactic| first
  | assumption
  | exact Tk.refl _
  | ((with_reducible refine Tk.same (H1 := ?gh) ?gt ?gs); (case gs => assumption); walk_at "tk")
  | ((with_reducible refine Tk.lst (H1 := ?gh) (a := ?ga) (ys := ?gy) ?gt ?gs ?gl); (case gs => assumption); (case gl => walk_at "at"); walk_at "tk")
  | ((with_reducible refine Tk.dct (H1 := ?gh) (a := ?ga) (kvs := ?gy) ?gt ?gs ?gl); (case gs => assumption); (case gl => walk_at "at"); walk_at "tk")
  | ((with_reducible refine Tk.trans (H1 := ?gh) ?gt (PenAt.tk (pen := ?gp) (L := ?gq) ?gl ?gs)); (case gs => assumption); (case gl => walk_at "pen"); walk_at "tk")
  | ((with_reducible refine Tk.trans (H1 := ?gh) ?gt ?gs); (case gs => assumption); walk_at "tk"))
local macro_rules | `(tactic| walk_at "same") => `(tactic| first
  | assumption
  | exact Same.refl _
  | ((with_reducible refine Same.more (H1 := ?gh) ?gt ?gs); (case gs => assumption); walk_at "same")
  | ((with_reducible refine Same.more2 (H1 := ?gh) (d := ?gd) ?gt ?gs ?gf); (case gs => assumption); (case gf => walk_at "free"); walk_at "same"))
local macro_rules | `(tactic| walk_at "chg") => `(tactic| first
  | assumption
  | exact Chg.refl
  | ((with_reducible refine Chg.trans (H1 := ?gh) ?gt ?gs); (case gs => assumption); walk_at "chg")
  | ((with_reducible refine Chg.trans (H1 := ?gh) ?gt (Chg.same ?gs)); (case gs => assumption); walk_at "chg")
  | ((with_reducible refine Chg.fresh (H1 := ?gh) (d := ?gd) ?gt ?gf ?gs); (case gs => assumption); (case gf => walk_at "free"); walk_at "chg"))
local macro_rules | `(tactic| walk_at "tps") => `(tactic| first
  | assumption
  | exact Tps.nil
  | (with_reducible (refine Tps.cons ?g1 ?g2); (case g1 => walk_at "tp"); walk_at "tps")
  | ((refine Tps.to (H := ?gh) ?gt ?gk); (case gt => assumption); walk_at "tk"))
local macro_rules | `(tactic| walk_at "tp") => `(tactic| first
  | assumption
  | exact Tp.str _
  | exact Tp.int _
  | exact Tp.bl _
  | exact Tp.non
  | ((refine Tp.to (H := ?gh) ?gt ?gk); (case gt => assumption); walk_at "tk")
  | ((refine Tp.tup (xs := ?gx) ?g1 ?g2); (case g1 => walk_at "at"); walk_at "tps"))
local macro_rules | `(tactic| walk_at "g2") => `(tactic| first
  | walk_at "g1"
  | with_reducible refine New.mk fun p H n e s => ?_
  | with_reducible refine Put.mk fun H e c => ?_
  | ((with_reducible refine g_ixTa (xs := ?gx) (v := ?gv) ?gh ?ge ?gi ?gt); (case gh => walk_at "at"); (case ge => exact rfl); (case gi => decide))
  | ((with_reducible refine g_ixLa (xs := ?gx) (v := ?gv) ?gh ?ge ?gi ?gt); (case gh => walk_at "at"); (case ge => exact rfl); (case gi => decide))
  | ((with_reducible refine g_tyl (xs := ?gx) (SqL.of ?gh) ?gt); (case gh => walk_at "at"))
  | ((with_reducible refine g_T ?gh ?gt); (case gh => exact rfl))
  | ((with_reducible refine g_F ?gh ?gt); (case gh => exact rfl))
  | ((with_reducible refine g_lenL (xs := ?gx) (SqL.of ?gh) ?gt); (case gh => walk_at "at"))
  | ((with_reducible refine g_lenT (xs := ?gx) (SqT.of ?gh) ?gt); (case gh => walk_at "at"))
  | ((with_reducible refine g_tupleL (xs := ?gx) (SqL.of ?gh) ?gt); (case gh => walk_at "at"))
  | ((with_reducible refine g_tupleT (xs := ?gx) (SqT.of ?gh) ?gt); (case gh => walk_at "at"))
  | ((with_reducible refine g_listL (xs := ?gx) (SqL.of ?gh) ?gt); (case gh => walk_at "at"))
  | ((with_reducible refine g_listT (xs := ?gx) (SqT.of ?gh) ?gt); (case gh => walk_at "at"))
  | ((refine g_un2 (x := ?gx) (y := ?gy) ?gh ?gt); (case gh => walk_at "at"); (try dsimp only [List.set]))
  | ((refine g_un3 (x := ?gx) (y := ?gy) (z := ?gz) ?gh ?gt); (case gh => walk_at "at"); (try dsimp only [List.set]))
  | ((with_reducible refine g_inX (xs := ?gx) (r := true) ?gh ?gf ?ge ?gt); (case gh => walk_at "at"); (case gf => exact rfl); (case ge => exact rfl))
  | ((with_reducible refine g_inX (xs := ?gx) (r := false) ?gh ?gf ?ge ?gt); (case gh => walk_at "at"); (case gf => exact rfl); (case ge => exact rfl))
  | ((with_reducible refine g_notInX (xs := ?gx) (r := true) ?gh ?gf ?ge ?gt); (case gh => walk_at "at"); (case gf => exact rfl); (case ge => exact rfl))
  | ((with_reducible refine g_notInX (xs := ?gx) (r := false) ?gh ?gf ?ge ?gt); (case gh => walk_at "at"); (case gf => exact rfl); (case ge => exact rfl))
  | ((with_reducible refine g_inK (kvs := ?gk) (r := false) ?gh ?ge ?gt); (case gh => assumption); (case ge => exact rfl))
  | ((with_reducible refine g_inK (kvs := ?gk) (r := true) ?gh ?ge ?gt); (case gh => assumption); (case ge => exact rfl))
  | ((with_reducible refine g_dnew ?gt))
  | ((with_reducible refine g_isTa (xs := ?gx) ?gh ?gt); (case gh => walk_at "at"))
  | ((with_reducible refine g_isLa (xs := ?gx) ?gh ?gt); (case gh => walk_at "at")))
local macro_rules | `(tactic| walk_at "gg") => `(tactic| repeat walk_at "g2")
local macro_rules | `(tactic| walk_at "len") => `(tactic| (show _ ≤ 16777216; simp only [List.length_append, List.length_cons, List.length_nil, List.length_map, List.length_reverse]; omega))
local macro_rules | `(tactic| walk_at "g2") => `(tactic| first
  | ((with_reducible refine g_neNil (xs := ?gx) ?gh ?gi ?gt); (case gi => walk_at "at"); (case gh => walk_at "at"))
  | ((with_reducible refine g_eqNil (xs := ?gx) ?gh ?gi ?gt); (case gi => walk_at "at"); (case gh => walk_at "at"))
  | ((with_reducible refine g_inGT (xs := ?gx) (r := true) ?gh ?gf ?ge ?gt); (case gh => assumption); (case gf => exact rfl); (case ge => exact rfl))
  | ((with_reducible refine g_inGT (xs := ?gx) (r := false) ?gh ?gf ?ge ?gt); (case gh => assumption); (case gf => exact rfl); (case ge => exact rfl))
  | with_reducible refine g_neBI ?_ | with_reducible refine g_neBS ?_ | with_reducible refine g_eqBI ?_ | with_reducible refine g_eqBS ?_
  | with_reducible refine g_dictZ ?_
  | with_reducible refine g_zipM ?_
  | ((with_reducible refine g_dict (kvs := ?gx) ?gh ?gt); (case gh => walk_at "at"))
  | ((with_reducible refine g_addL (xs := ?gx) (ys := ?gy) ?gh ?gi ?gl ?gt); (case gh => walk_at "at"); (case gi => walk_at "at"); (case gl => walk_at "len")))
local macro_rules | `(tactic| walk_at "draw") => `(tactic| ((refine g_draw (L := ?gl) ?gp ?g0 ?g1 ?gq); (case gp => walk_at "pen"); (case g0 => decide); (case g1 => decide)))
local macro_rules | `(tactic| walk_at "g2") => `(tactic| first
  | with_reducible refine g_fld ?_ | with_reducible refine g_sfld ?_ | with_reducible refine g_meth ?_ | with_reducible refine g_make ?_
  | ((with_reducible refine g_fldr (C := ?gC) (dx := ?gd) (fs := ?gx) (v := ?gw) ?gh ?gc ?gn ?gv ?gt); (case gh => walk_at "at"); (case gc => assumption); (case gn => assumption); (case gv => exact rfl))
  | ((with_reducible refine g_methr (dx := ?gd) (fs := ?gx) ?gh ?gn ?gt); (case gh => walk_at "at"); (case gn => exact rfl))
  | with_reducible refine g_maker fun x dx H n e s => ?_)
local macro_rules | `(tactic| walk_at "g2") => `(tactic| first
  | with_reducible refine g_calE ?_ | with_reducible refine g_calS ?_ | with_reducible refine g_calN ?_ | with_reducible refine g_raiseO ?_ | with_reducible refine g_raiseI ?_ | with_reducible refine g_tryK ?_)

/-! ### closed parts put in -/
theorem Lk.up {K : PySem.W.Frag} {H : Hp} : ∀ {n m : Nat} {x y : V}, n ≤ m → Lk K H n x y → Lk K H m x y
  | 0, _, _, _, _, h => h.elim
  | n + 1, 0, _, _, hnm, _ => absurd hnm (by omega)
  | n + 1, m + 1, x, y, hnm, h => by
    have pu : ∀ {xs ys : List V}, Paired (Lk K H n) xs ys → Paired (Lk K H m) xs ys := by
      intro xs ys p
      induction p with
      | nil => exact .nil
      | cons a _ ih => exact .cons (Lk.up (by omega) a) ih
    rcases h with h | h | ⟨a, b, xs, ys, e1, e2, h1, h2, p⟩ | ⟨a, b, xs, ys, e1, e2, h1, h2, p⟩
    · exact .inl h
    · exact .inr (.inl h)
    · exact .inr (.inr (.inl ⟨a, b, xs, ys, e1, e2, h1, h2, pu p⟩))
    · exact .inr (.inr (.inr ⟨a, b, xs, ys, e1, e2, h1, h2, pu p⟩))
section
variable {K : PySem.W.Frag} {H H' : Hp}
/-- two tuples of alike things -/
theorem Lk.tup {n : Nat} {a b : Addr} {xs ys : List V} (ha : H a = some (.tup xs)) (hb : H b = some (.tup ys)) (p : Paired (Lk K H n) xs ys) : Lk K H (n + 1) (.ref a) (.ref b) := .inr (.inr (.inr ⟨a, b, xs, ys, rfl, rfl, .of ha, .of hb, p⟩))
theorem Lk.flat {n : Nat} {x : V} (h : flatB x = true) : Lk K H (n + 1) x x := .inl ⟨rfl, h⟩
theorem Lk.same {n : Nat} {a : Addr} : Lk K H (n + 1) (.ref a) (.ref a) := .inr (.inl ⟨a, rfl, rfl⟩)
mutual
theorem Tp.like : ∀ {d : PyData} {v v' : V} {n : Nat}, Tp H v d → Tp H v' d → PyData.depth d < n → Lk K H n v v'
  | .none, _, _, n, h, h', hn => by
    cases h; cases h'
    obtain ⟨m, rfl⟩ : ∃ m, n = m + 1 := ⟨n - 1, by omega⟩
    exact .flat rfl
  | .bool b, _, _, n, h, h', hn => by
    cases h; cases h'
    obtain ⟨m, rfl⟩ : ∃ m, n = m + 1 := ⟨n - 1, by omega⟩
    exact .flat rfl
  | .int i, _, _, n, h, h', hn => by
    cases h; cases h'
    obtain ⟨m, rfl⟩ : ∃ m, n = m + 1 := ⟨n - 1, by omega⟩
    exact .flat rfl
  | .str x, _, _, n, h, h', hn => by
    cases h; cases h'
    obtain ⟨m, rfl⟩ : ∃ m, n = m + 1 := ⟨n - 1, by omega⟩
    exact .flat rfl
  | .tuple ds, _, _, n, h, h', hn => by
    cases h with
    | tup e r =>
      cases h' with
      | tup e' r' =>
        obtain ⟨m, rfl⟩ : ∃ m, n = m + 1 := ⟨n - 1, by omega⟩
        rw [PyData.depth] at hn
        exact .tup e e' (Tps.like r r' (by omega))
  | .list ds, _, _, _, h, _, _ => by cases h
  | .dict ds, _, _, _, h, _, _ => by cases h
theorem Tps.like : ∀ {ds : List PyData} {vs vs' : List V} {n : Nat}, Tps H vs ds → Tps H vs' ds → PyData.depthAll ds < n → Paired (Lk K H n) vs vs'
  | [], _, _, _, h, h', _ => by cases h; cases h'; exact .nil
  | d :: ds, _, _, n, h, h', hn => by
    rw [PyData.depthAll] at hn
    cases h with
    | cons a b =>
      cases h' with
      | cons a' b' => exact .cons (Tp.like a a' (by omega)) (Tps.like b b' (by omega))
end
end
mutual
def Part.put (env : Str → Option Part) : Part → Part
  | .num n => .num n
  | .name x => match env x with
    | some q => .shut q
    | none => .name x
  | .fn f => .fn f
  | .one k a => .one k (a.put env)
  | .two k a b => .two k (a.put env) (b.put env)
  | .whn a b c => .whn (a.put env) (b.put env) (c.put env)
  | .letp r a => .letp (r.put env) (a.put env)
  | .shut a => .shut a
def Rows.put (env : Str → Option Part) : Rows → Rows
  | .nil => .nil
  | .cons x a r => .cons x (a.put env) (r.put env)
end
mutual
/-- v is the part with the values dv in the place of names; the same objects in both -/
def PutAt (H : Hp) (dv : Str → Option V) : Part → V → Prop
  | .num n, v => Tp H v (Part.num n).data
  | .name x, v => match dv x with
    | some u => ∃ a, v = .ref a ∧ H a = some (.tup [.str "shut", u])
    | none => Tp H v (Part.name x).data
  | .fn f, v => Tp H v (Part.fn f).data
  | .one k a, v => ∃ r x, v = .ref r ∧ H r = some (.tup [.str k.word, x]) ∧ PutAt H dv a x
  | .two k a b, v => ∃ r x y, v = .ref r ∧ H r = some (.tup [.str k.word, x, y]) ∧ PutAt H dv a x ∧ PutAt H dv b y
  | .whn a b c, v => ∃ r x y z, v = .ref r ∧ H r = some (.tup [.str "when", x, y, z]) ∧ PutAt H dv a x ∧ PutAt H dv b y ∧ PutAt H dv c z
  | .letp rs a, v => ∃ r b xs x, v = .ref r ∧ H r = some (.tup [.str "let", .ref b, x]) ∧ H b = some (.tup xs) ∧ PutRows H dv rs xs ∧ PutAt H dv a x
  | .shut a, v => Tp H v (Part.shut a).data
def PutRows (H : Hp) (dv : Str → Option V) : Rows → List V → Prop
  | .nil, vs => vs = []
  | .cons x a r, vs => ∃ c u us, vs = .ref c :: us ∧ H c = some (.tup [.str x, u]) ∧ PutAt H dv a u ∧ PutRows H dv r us
end
section
variable {H H' : Hp} {dv : Str → Option V}
mutual
theorem PutAt.mono (k : Tk H H') : ∀ {p : Part} {v : V}, PutAt H dv p v → PutAt H' dv p v
  | .num n, v, h => Tp.mono k h
  | .name x, v, h => by
    unfold PutAt at h ⊢
    split at h
    · obtain ⟨a, e, h⟩ := h
      exact ⟨a, e, k _ _ h⟩
    · exact Tp.mono k h
  | .fn f, v, h => Tp.mono k h
  | .one _ a, v, ⟨r, x, e, h, h1⟩ => ⟨r, x, e, k _ _ h, PutAt.mono k h1⟩
  | .two _ a b, v, ⟨r, x, y, e, h, h1, h2⟩ => ⟨r, x, y, e, k _ _ h, PutAt.mono k h1, PutAt.mono k h2⟩
  | .whn a b c, v, ⟨r, x, y, z, e, h, h1, h2, h3⟩ => ⟨r, x, y, z, e, k _ _ h, PutAt.mono k h1, PutAt.mono k h2, PutAt.mono k h3⟩
  | .letp rs a, v, ⟨r, b, xs, x, e, h, hb, h1, h2⟩ => ⟨r, b, xs, x, e, k _ _ h, k _ _ hb, PutRows.mono k h1, PutAt.mono k h2⟩
  | .shut a, v, h => Tp.mono k h
theorem PutRows.mono (k : Tk H H') : ∀ {r : Rows} {vs : List V}, PutRows H dv r vs → PutRows H' dv r vs
  | .nil, vs, h => h
  | .cons x a r, vs, ⟨c, u, us, e, h, h1, h2⟩ => ⟨c, u, us, e, k _ _ h, PutAt.mono k h1, PutRows.mono k h2⟩
end
/-- what dv tells is what env tells -/
def EnvAt (H : Hp) (dv : Str → Option V) (env : Str → Option Part) : Prop := ∀ x, (dv x = none ∧ env x = none) ∨ ∃ u q, dv x = some u ∧ env x = some q ∧ Tp H u q.data
mutual
theorem PutAt.tp {env : Str → Option Part} (he : EnvAt H dv env) : ∀ {p : Part} {v : V}, PutAt H dv p v → Tp H v (p.put env).data
  | .num n, v, h => h
  | .name x, v, h => by
    unfold PutAt at h
    unfold Part.put
    rcases he x with ⟨e1, e2⟩ | ⟨u, q, e1, e2, t⟩
    · rw [e1] at h
      rw [e2]
      exact h
    · rw [e1] at h
      rw [e2]
      obtain ⟨a, rfl, h⟩ := h
      exact .tup h (.cons (.str _) (.one t))
  | .fn f, v, h => h
  | .one _ a, v, ⟨r, x, e, h, h1⟩ => by
    subst e
    exact .tup h (.cons (.str _) (.one (PutAt.tp he h1)))
  | .two _ a b, v, ⟨r, x, y, e, h, h1, h2⟩ => by
    subst e
    exact .tup h (.cons (.str _) (.cons (PutAt.tp he h1) (.one (PutAt.tp he h2))))
  | .whn a b c, v, ⟨r, x, y, z, e, h, h1, h2, h3⟩ => by
    subst e
    exact .tup h (.cons (.str _) (.cons (PutAt.tp he h1) (.cons (PutAt.tp he h2) (.one (PutAt.tp he h3)))))
  | .letp rs a, v, ⟨r, b, xs, x, e, h, hb, h1, h2⟩ => by
    subst e
    exact .tup h (.cons (.str _) (.cons (.tup hb (PutRows.tp he h1)) (.one (PutAt.tp he h2))))
  | .shut a, v, h => h
theorem PutRows.tp {env : Str → Option Part} (he : EnvAt H dv env) : ∀ {r : Rows} {vs : List V}, PutRows H dv r vs → Tps H vs (r.put env).datas
  | .nil, vs, h => by
    have : vs = [] := h
    rw [this]
    exact .nil
  | .cons x a r, vs, ⟨c, u, us, e, h, h1, h2⟩ => by
    subst e
    exact .cons (.tup h (.cons (.str _) (.one (PutAt.tp he h1)))) (PutRows.tp he h2)
end
/-- values that == finds alike at once -/
def FlatDv (dv : Str → Option V) : Prop := ∀ x u, dv x = some u → ∃ a, u = .ref a
mutual
/-- how deep likeness goes -/
def Part.ld : Part → Nat
  | .num _ => 3
  | .name _ => 3
  | .fn _ => 3
  | .one _ a => 1 + max 1 a.ld
  | .two _ a b => 1 + max 1 (max a.ld b.ld)
  | .whn a b c => 1 + max 1 (max a.ld (max b.ld c.ld))
  | .letp r a => 1 + max (1 + r.ld) a.ld
  | .shut a => 2 + PyData.depth a.data
def Rows.ld : Rows → Nat
  | .nil => 1
  | .cons _ a r => max (1 + max 1 a.ld) r.ld
end
mutual
theorem PutAt.like {K : PySem.W.Frag} (hd : FlatDv dv) : ∀ {p : Part} {v v' : V}, PutAt H dv p v → PutAt H dv p v' → Lk K H p.ld v v'
  | .num n, v, v', h, h' => Tp.like h h' (by simp [Part.data, PyData.depth, PyData.depthAll, Part.ld])
  | .name x, v, v', h, h' => by
    unfold PutAt at h h'
    cases e : dv x with
    | none =>
      rw [e] at h h'
      exact Tp.like h h' (by simp [Part.data, PyData.depth, PyData.depthAll, Part.ld])
    | some u =>
      rw [e] at h h'
      obtain ⟨a, rfl, h⟩ := h
      obtain ⟨b, rfl, h'⟩ := h'
      obtain ⟨c, rfl⟩ := hd x u e
      exact .tup (n := 2) h h' (.cons (.flat rfl) (.cons .same .nil))
  | .fn f, v, v', h, h' => Tp.like h h' (by simp [Part.data, PyData.depth, PyData.depthAll, Part.ld])
  | .one k a, v, v', ⟨r, x, e, h, h1⟩, ⟨r', x', e', h', h1'⟩ => by
    subst e; subst e'
    have i1 := (PutAt.like (K := K) hd h1 h1').up (show a.ld ≤ max 1 a.ld from by omega)
    have i0 : Lk K H (max 1 a.ld) (.str k.word) (.str k.word) := Lk.up (n := 1) (by omega) (.flat rfl)
    have := Lk.tup h h' (.cons i0 (.cons i1 .nil))
    exact this.up (by show _ ≤ 1 + max 1 a.ld; omega)
  | .two k a b, v, v', ⟨r, x, y, e, h, h1, h2⟩, ⟨r', x', y', e', h', h1', h2'⟩ => by
    subst e; subst e'
    have i1 := (PutAt.like (K := K) hd h1 h1').up (show a.ld ≤ max 1 (max a.ld b.ld) from by omega)
    have i2 := (PutAt.like (K := K) hd h2 h2').up (show b.ld ≤ max 1 (max a.ld b.ld) from by omega)
    have i0 : Lk K H (max 1 (max a.ld b.ld)) (.str k.word) (.str k.word) := Lk.up (n := 1) (by omega) (.flat rfl)
    exact (Lk.tup h h' (.cons i0 (.cons i1 (.cons i2 .nil)))).up (by show _ ≤ 1 + max 1 (max a.ld b.ld); omega)
  | .whn a b c, v, v', ⟨r, x, y, z, e, h, h1, h2, h3⟩, ⟨r', x', y', z', e', h', h1', h2', h3'⟩ => by
    subst e; subst e'
    have i1 := (PutAt.like (K := K) hd h1 h1').up (show a.ld ≤ max 1 (max a.ld (max b.ld c.ld)) from by omega)
    have i2 := (PutAt.like (K := K) hd h2 h2').up (show b.ld ≤ max 1 (max a.ld (max b.ld c.ld)) from by omega)
    have i3 := (PutAt.like (K := K) hd h3 h3').up (show c.ld ≤ max 1 (max a.ld (max b.ld c.ld)) from by omega)
    have i0 : Lk K H (max 1 (max a.ld (max b.ld c.ld))) (.str "when") (.str "when") := Lk.up (n := 1) (by omega) (.flat rfl)
    exact (Lk.tup h h' (.cons i0 (.cons i1 (.cons i2 (.cons i3 .nil))))).up (by show _ ≤ 1 + max 1 (max a.ld (max b.ld c.ld)); omega)
  | .letp rs a, v, v', ⟨r, b, xs, x, e, h, hb, h1, h2⟩, ⟨r', b', xs', x', e', h', hb', h1', h2'⟩ => by
    subst e; subst e'
    have i2 := (PutAt.like (K := K) hd h2 h2').up (show a.ld ≤ max (1 + rs.ld) a.ld from by omega)
    have i1 := (Lk.tup hb hb' (PutRows.like (K := K) hd h1 h1')).up (show rs.ld + 1 ≤ max (1 + rs.ld) a.ld from by omega)
    have i0 : Lk K H (max (1 + rs.ld) a.ld) (.str "let") (.str "let") := Lk.up (n := 1) (by omega) (.flat rfl)
    exact (Lk.tup h h' (.cons i0 (.cons i1 (.cons i2 .nil)))).up (by show _ ≤ 1 + max (1 + rs.ld) a.ld; omega)
  | .shut a, v, v', h, h' => Tp.like h h' (by simp [Part.data, PyData.depth, PyData.depthAll, Part.ld]; omega)
theorem PutRows.like {K : PySem.W.Frag} (hd : FlatDv dv) : ∀ {r : Rows} {vs vs' : List V}, PutRows H dv r vs → PutRows H dv r vs' → Paired (Lk K H r.ld) vs vs'
  | .nil, vs, vs', h, h' => by
    have e : vs = [] := h
    have e' : vs' = [] := h'
    rw [e, e']
    exact .nil
  | .cons x a r, vs, vs', ⟨c, u, us, e, h, h1, h2⟩, ⟨c', u', us', e', h', h1', h2'⟩ => by
    subst e; subst e'
    have i1 := (PutAt.like (K := K) hd h1 h1').up (show a.ld ≤ max 1 a.ld from by omega)
    have i0 : Lk K H (max 1 a.ld) (.str x) (.str x) := Lk.up (n := 1) (by omega) (.flat rfl)
    have i := (Lk.tup h h' (.cons i0 (.cons i1 .nil))).up (show max 1 a.ld + 1 ≤ (Rows.cons x a r).ld from by show _ ≤ max (1 + max 1 a.ld) r.ld; omega)
    have rest := PutRows.like (K := K) hd h2 h2'
    have ru : ∀ {xs ys : List V}, Paired (Lk K H r.ld) xs ys → Paired (Lk K H (Rows.cons x a r).ld) xs ys := by
      intro xs ys p
      induction p with
      | nil => exact .nil
      | cons a _ ih => exact .cons (a.up (by show r.ld ≤ max _ r.ld; omega)) ih
    exact .cons i (ru rest)
end
end
mutual
theorem Part.put_deep (env : Str → Option Part) : ∀ p : Part, (p.put env).deep = p.deep ∧ (p.put env).size = p.size
  | .num n => ⟨rfl, rfl⟩
  | .name x => by unfold Part.put; cases env x <;> exact ⟨rfl, rfl⟩
  | .fn f => ⟨rfl, rfl⟩
  | .one k a => by have h := a.put_deep env; exact ⟨congrArg (1 + ·) h.1, congrArg (1 + ·) h.2⟩
  | .two k a b => by
    have h := a.put_deep env
    have h2 := b.put_deep env
    refine ⟨?_, ?_⟩
    · show 1 + max (a.put env).deep (b.put env).deep = 1 + max a.deep b.deep; rw [h.1, h2.1]
    · show 1 + ((a.put env).size + (b.put env).size) = 1 + (a.size + b.size); rw [h.2, h2.2]
  | .whn a b c => by
    have h := a.put_deep env
    have h2 := b.put_deep env
    have h3 := c.put_deep env
    refine ⟨?_, ?_⟩
    · show 1 + max (a.put env).deep (max (b.put env).deep (c.put env).deep) = 1 + max a.deep (max b.deep c.deep); rw [h.1, h2.1, h3.1]
    · show 1 + ((a.put env).size + ((b.put env).size + (c.put env).size)) = 1 + (a.size + (b.size + c.size)); rw [h.2, h2.2, h3.2]
  | .letp r a => by
    have h := r.put_deep env
    have h2 := a.put_deep env
    refine ⟨?_, ?_⟩
    · show 1 + max (r.put env).deep (a.put env).deep = 1 + max r.deep a.deep; rw [h.1, h2.1]
    · show 1 + ((r.put env).size + (a.put env).size) = 1 + (r.size + a.size); rw [h.2, h2.2]
  | .shut a => ⟨rfl, rfl⟩
theorem Rows.put_deep (env : Str → Option Part) : ∀ r : Rows, (r.put env).deep = r.deep ∧ (r.put env).size = r.size
  | .nil => ⟨rfl, rfl⟩
  | .cons x a r => by
    have h := a.put_deep env
    have h2 := r.put_deep env
    refine ⟨?_, ?_⟩
    · show max (a.put env).deep (r.put env).deep = max a.deep r.deep; rw [h.1, h2.1]
    · show (a.put env).size + (r.put env).size = a.size + r.size; rw [h.2, h2.2]
end

/-! ### putting in, walked -/
def dvOf (kvs : List (Key × V)) : Str → Option V := fun x => valV kvs (.inr x)
theorem g_inD {K : PySem.W.Frag} {w : World} {H : Hp} {Q : VK} {d : Addr} {kvs : List (Key × V)} {z : Str} (h : H d = some (.dK kvs)) (q : Q (.bl (dvOf kvs z).isSome) H) : rInG K w false (.str z) (.ref d) H Q :=
  .inr (.inr (.inl ⟨d, _, rfl, .inl ⟨kvs, .inr z, .of h, rfl, rfl⟩, by simpa [dvOf] using q⟩))
def PutAll (H : Hp) (dv : Str → Option V) : List Part → List V → Prop
  | [], vs => vs = []
  | p :: r, vs => ∃ u us, vs = u :: us ∧ PutAt H dv p u ∧ PutAll H dv r us
section
variable {H H' : Hp} {dv : Str → Option V}
theorem PutAll.mono (k : Tk H H') : ∀ {ps : List Part} {vs : List V}, PutAll H dv ps vs → PutAll H' dv ps vs
  | [], vs, h => h
  | p :: r, vs, ⟨u, us, e, h1, h2⟩ => ⟨u, us, e, h1.mono k, PutAll.mono k h2⟩
theorem PutAll.snoc : ∀ {ps : List Part} {vs : List V} {p : Part} {u : V}, PutAll H dv ps vs → PutAt H dv p u → PutAll H dv (ps ++ [p]) (vs ++ [u])
  | [], vs, p, u, h, h2 => by
    have e : vs = [] := h
    rw [e]
    exact ⟨u, [], rfl, h2, rfl⟩
  | q :: r, vs, p, u, ⟨x, us, e, h1, h3⟩, h2 => by
    subst e
    exact ⟨x, us ++ [u], rfl, h1, PutAll.snoc h3 h2⟩
theorem PutAll.len : ∀ {ps : List Part} {vs : List V}, PutAll H dv ps vs → vs.length = ps.length
  | [], vs, h => by
    have e : vs = [] := h
    rw [e]
    rfl
  | p :: r, vs, ⟨u, us, e, h1, h2⟩ => by
    subst e
    exact congrArg (· + 1) (PutAll.len h2)
theorem PutRows.snoc : ∀ {l : List (Str × Part)} {vs : List V} {x : Str} {a : Part} {c : Addr} {u : V}, PutRows H dv (Rows.of l) vs → H c = some (.tup [.str x, u]) → PutAt H dv a u → PutRows H dv (Rows.of (l ++ [(x, a)])) (vs ++ [.ref c])
  | [], vs, x, a, c, u, h, h1, h2 => by
    have e : vs = [] := h
    rw [e]
    exact ⟨c, u, [], rfl, h1, h2, rfl⟩
  | q :: l, vs, x, a, c, u, ⟨c', u', us, e, h3, h4, h5⟩, h1, h2 => by
    subst e
    exact ⟨c', u', us ++ [.ref c], rfl, h3, h4, PutRows.snoc h5 h1 h2⟩
theorem Rows.of_list : ∀ r : Rows, Rows.of r.list = r
  | .nil => rfl
  | .cons x a r => by
    show Rows.cons x a (Rows.of r.list) = _
    rw [Rows.of_list r]
/-- a part of the same kind, put in within -/
theorem PutAt.kind {p : Part} (hw : plainWord p.word) (hs : p.word ≠ "shut") {us : List V} {a : Addr} (h : PutAll H dv p.kids us) (ha : H a = some (.tup (.str p.word :: us))) : PutAt H dv p (.ref a) := by
  cases p with
  | one k b =>
    obtain ⟨u, r, rfl, h1, h2⟩ := h
    rw [show r = [] from h2] at ha
    exact ⟨a, u, rfl, ha, h1⟩
  | two k b c =>
    obtain ⟨u, r, rfl, h1, v, r2, rfl, h2, h3⟩ := h
    rw [show r2 = [] from h3] at ha
    exact ⟨a, u, v, rfl, ha, h1, h2⟩
  | whn b c d =>
    obtain ⟨u, r, rfl, h1, v, r2, rfl, h2, x, r3, rfl, h3, h4⟩ := h
    rw [show r3 = [] from h4] at ha
    exact ⟨a, u, v, x, rfl, ha, h1, h2, h3⟩
  | shut a => exact absurd rfl hs
  | num n => exact absurd (show ("number" : Str) ∈ [("number" : Str), "fun", "let", "name"] from by simp) hw
  | name n => exact absurd (show ("name" : Str) ∈ [("number" : Str), "fun", "let", "name"] from by simp) hw
  | fn n => exact absurd (show ("fun" : Str) ∈ [("number" : Str), "fun", "let", "name"] from by simp) hw
  | letp r a => exact absurd (show ("let" : Str) ∈ [("number" : Str), "fun", "let", "name"] from by simp) hw
end
theorem Rows.list_sz : ∀ (r : Rows) {q : Str × Part}, q ∈ r.list → q.2.size ≤ r.size ∧ q.2.deep ≤ r.deep
  | .cons x a r, q, h => by
    show _ ≤ a.size + r.size ∧ _ ≤ max a.deep r.deep
    rcases List.mem_cons.mp h with rfl | h
    · show a.size ≤ _ ∧ a.deep ≤ _
      omega
    · have := Rows.list_sz r h
      omega
theorem Rows.list_len (r : Rows) : r.list.length ≤ r.size := by
  have h1 := r.sz
  have h2 := sz_len r.parts
  rw [Rows.list_parts, List.length_map] at h2
  rw [Rows.list_parts] at h1
  omega
def spPut (m : Nat) : Sp := fun vs H Q _ => ∃ (v : V) (p : Part) (d : Addr) (kvs : List (Key × V)), vs = [v, .ref d] ∧ Tp H v p.data ∧ p.deep ≤ m ∧ p.size ≤ 60 ∧ H d = some (.dK kvs) ∧ ∀ (v' : V) (H' : Hp), PutAt H' (dvOf kvs) p v' → Same H H' → Q v' H'

/-! ### looks: names, numbers, rows, the parts of a part -/
/-- of each it tells True -/
theorem lc_true_any {K : PySem.W.Frag} {J : It} {g : TG} {te : TE} {vs : List Nat} {σ : L2.St} {H1 : Hp} {n : Nat} {Qd : Addr → Hp → Prop} (hJ1 : ∀ i H', i < n → Same H1 H' → J.go i H') (hJ2 : ∀ H', Same H1 H' → J.stop n H') (hl : n ≤ 100000)
    (hs : ∀ (i : Nat) x H' H'' (Nx : V → Hp → Prop), i < n → Same H1 H' → J.yld i H' x H'' → (∀ H4, Same H' H4 → Nx (.bl true) H4) → g x (wipe σ vs) H'' fun σ2 H2 => wipe σ2 vs = wipe σ vs ∧ te σ2 H2 Nx)
    (hd : ∀ D H', Fr H1 D → H' D = some (.lst ((List.replicate n true).map V.bl)) → Same H1 H' → Qd D H') : LcR J g tYes te vs σ H1 Qd := by
  intro D hD
  refine lc_any n (fun i acc H' => acc = (List.replicate i true).map V.bl ∧ Same H1 H') hD (fun H' _ s => ⟨rfl, s⟩) (fun i acc H' hi ⟨_, s⟩ => hJ1 i H' hi s) (fun acc H' ⟨_, s⟩ => hJ2 H' s) ?_ ?_
  · rintro i v acc H2 H' hi hla ⟨hacc, s2⟩ hd2 hy
    refine hs i v _ _ _ hi s2 hy fun H4 s4 => ?_
    refine lc_step (s4 _ _ hd2) hla (by show _ < 16777216; omega) fun H5 e5 c5 => ?_
    refine ⟨?_, Same.chg (s2.trans s4) hD c5⟩
    rw [hacc, List.replicate_succ', List.map_append]
    rfl
  · rintro acc H' hd2 ⟨rfl, s⟩
    exact hd D H' hD hd2 s
theorem all_true (n : Nat) : (List.replicate n true).all id = true := by rw [List.all_replicate]; simp
theorem lc_trueT {K : PySem.W.Frag} {g : TG} {te : TE} {vs : List Nat} {σ : L2.St} {H1 : Hp} {a : Addr} {xs : List V} {Qd : Addr → Hp → Prop} (ea : H1 a = some (.tup xs)) (hl : xs.length ≤ 100000)
    (hs : ∀ (i : Nat) x H' (Nx : V → Hp → Prop), xs[i]? = some x → Same H1 H' → (∀ H4, Same H' H4 → Nx (.bl true) H4) → g x (wipe σ vs) H' fun σ2 H2 => wipe σ2 vs = wipe σ vs ∧ te σ2 H2 Nx)
    (hd : ∀ D H', Fr H1 D → H' D = some (.lst ((List.replicate xs.length true).map V.bl)) → Same H1 H' → Qd D H') : LcR (Itt K a) g tYes te vs σ H1 Qd :=
  lc_true_any (K := K) (fun i H' hi s => ⟨_, _, .of (s _ _ ea), List.getElem?_eq_getElem hi⟩) (fun H' s => ⟨_, .of (s _ _ ea), Nat.le_refl _⟩) hl (fun i x H' H'' Nx hi s ⟨e, hx⟩ hN => by subst e; exact hs i x _ Nx (hx _ (.of (s _ _ ea))) s hN) hd
theorem g_chain {r r' : R2} {ta tb tc : TE} {σ : L2.St} {H : Hp} {Q : VK} (h : ta σ H fun x H1 => tb σ H1 fun y H2 => r x y H2 fun z H3 => ∃ k, z = .bl k ∧ (if k = true then tc σ H3 fun w' H4 => r' y w' H4 Q else Q (.bl false) H3)) : tChain r r' ta tb tc σ H Q := h
def abc : Str := "abcdefghijklmnopqrstuvwxyz"
theorem in_abc {c : Nat} (h : 97 ≤ c ∧ c < 123) : (!(Builtin.Str.occurrences abc ⟨#[c]⟩ 0 abc.length 1).isEmpty) = true := by
  have key : ∀ k : Fin 26, (!(Builtin.Str.occurrences abc ⟨#[97 + k.val]⟩ 0 abc.length 1).isEmpty) = true := by decide +kernel
  have := key ⟨c - 97, by omega⟩
  rw [show 97 + (⟨c - 97, by omega⟩ : Fin 26).val = c from by show 97 + (c - 97) = c; omega] at this
  exact this
def spIsName : Sp := fun vs H Q _ => ∃ (s : Str), vs = [.str s] ∧ isName s ∧ ∀ H', Same H H' → Q (.bl true) H'
theorem pure_isname {K : PySem.W.Frag} {w : World} : PureOk 1 spIsName (t_is_name K w) 2 := by
  refine ⟨fun vs H Q E ⟨_, e, _⟩ => by rw [e]; rfl, ?_⟩
  rintro vs H Q E ⟨s, rfl, hn, q⟩
  show t_is_name K w _ [some (.str s), none] H
  unfold t_is_name
  obtain ⟨h1, h2, h3⟩ := hn
  walk_at "gg"
  refine g_isi (r := true) (.str s) (by decide +kernel) ?_
  walk_at "gg"
  refine g_chain ?_
  walk_at "gg"
  refine g_lenS (by show _ ≤ 16777216; omega) ?_
  walk_at "gg"
  refine g_T (decide_eq_true (by omega)) ?_
  walk_at "gg"
  refine g_F (by rw [decide_eq_true (show (s.length : Int) ≤ 8 by omega)]; rfl) ?_
  walk_at "gg"
  refine g_seqS ?_
  walk_at "gg"
  have hsz : s.cps.size ≤ 8 := h2
  refine lc_true_any (K := K) (n := s.cps.size) (fun i H' hi _ => hi) (fun H' _ => Nat.le_refl _) (by omega) ?_ ?_
  · rintro i x H' H'' Nx hi s1 ⟨rfl, c, hc, rfl⟩ hN
    walk_at "gg"
    refine ⟨rfl, ?_⟩
    walk_at "gg"
    have hcm : c ∈ s.cps.toList := by rw [Array.mem_toList_iff]; exact Array.mem_of_getElem? hc
    refine .inr (.inl ⟨_, abc, rfl, rfl, ?_⟩)
    show Nx (.bl (!(Builtin.Str.occurrences abc ⟨#[c]⟩ 0 abc.length 1).isEmpty)) _
    rw [in_abc (h3 c hcm)]
    exact hN _ (.refl _)
  · intro D H' nD eD s1
    walk_at "gg"
    refine ⟨D, _, rfl, SqL.of eD, ?_⟩
    rw [all_true]
    exact q H' s1
def spIsWhole : Sp := fun vs H Q _ => ∃ (n : Int), vs = [.int n] ∧ ∀ H', Same H H' → Q (.bl true) H'
theorem pure_iswhole {K : PySem.W.Frag} {w : World} : PureOk 1 spIsWhole (t_is_whole K w) 1 := by
  refine ⟨fun vs H Q E ⟨_, e, _⟩ => by rw [e]; rfl, ?_⟩
  rintro vs H Q E ⟨n, rfl, q⟩
  show t_is_whole K w _ [some (.int n)] H
  unfold t_is_whole
  walk_at "gg"
  refine g_isi (r := true) (.int n) (by decide +kernel) ?_
  walk_at "gg"
  refine g_isi (r := false) (.int n) (by decide +kernel) ?_
  walk_at "gg"
  exact q H (.refl _)
def spIsRow : Sp := fun vs H Q _ => ∃ (c : Addr) (x : Str) (u : V), vs = [.ref c] ∧ H c = some (.tup [.str x, u]) ∧ isName x ∧ ∀ H', Same H H' → Q (.bl true) H'
theorem pure_isrow {K : PySem.W.Frag} {w : World} : PureOk 1 spIsRow (t_is_row K w spIsName) 1 := by
  refine ⟨fun vs H Q E ⟨_, _, _, e, _⟩ => by rw [e]; rfl, ?_⟩
  rintro vs H Q E ⟨c, x, u, rfl, ec, hx, q⟩
  show t_is_row K w _ _ [some (.ref c)] H
  unfold t_is_row
  walk_at "gg"
  refine g_isi (r := true) (.tup ec) (by decide +kernel) ?_
  walk_at "gg"
  exact ⟨x, rfl, hx, q⟩
def spAreRows : Sp := fun vs H Q _ => ∃ (a : Addr) (xs : List V), vs = [.ref a] ∧ H a = some (.tup xs) ∧ 1 ≤ xs.length ∧ xs.length ≤ 4 ∧ (∀ (i : Nat) v, xs[i]? = some v → ∃ c x u, v = .ref c ∧ H c = some (.tup [.str x, u]) ∧ isName x) ∧ ∀ H', Same H H' → Q (.bl true) H'
theorem pure_arerows {K : PySem.W.Frag} {w : World} : PureOk 1 spAreRows (t_are_rows K w spIsRow) 2 := by
  refine ⟨fun vs H Q E ⟨_, _, e, _⟩ => by rw [e]; rfl, ?_⟩
  rintro vs H Q E ⟨a, xs, rfl, ea, h1, h2, h3, q⟩
  show t_are_rows K w _ _ [some (.ref a), none] H
  unfold t_are_rows
  walk_at "gg"
  refine g_isi (r := true) (.tup ea) (by decide +kernel) ?_
  walk_at "gg"
  refine g_chain ?_
  walk_at "gg"
  refine g_T (decide_eq_true (by omega)) ?_
  walk_at "gg"
  refine g_T (decide_eq_true (by omega)) ?_
  walk_at "gg"
  refine g_seqT ?_
  walk_at "gg"
  refine lc_trueT ea (by omega) ?_ ?_
  · intro i v H' Nx hv s1 hN
    obtain ⟨c, x, u, rfl, ec, hx⟩ := h3 i v hv
    walk_at "gg"
    refine ⟨rfl, ?_⟩
    walk_at "gg"
    exact ⟨c, x, u, rfl, s1 _ _ ec, hx, fun H4 s4 => hN H4 s4⟩
  · intro D H' nD eD s1
    walk_at "gg"
    refine ⟨D, _, rfl, SqL.of eD, ?_⟩
    rw [all_true]
    exact q H' s1
def spIsSmall : Sp := fun vs H Q _ => ∃ (n : Int), vs = [.int n] ∧ n.natAbs < 10 ^ 60 ∧ Q (.bl true) H
theorem pure_issmall {K : PySem.W.Frag} {w : World} : PureOk 1 spIsSmall (t_is_small K w) 1 := by
  refine ⟨fun vs H Q E ⟨_, e, _⟩ => by rw [e]; rfl, ?_⟩
  rintro vs H Q E ⟨n, rfl, hn, q⟩
  show t_is_small K w _ [some (.int n)] H
  unfold t_is_small
  walk_at "gg"
  refine g_powI ⟨by decide, by decide, by decide⟩ ?_
  walk_at "gg"
  have e : decide ((n.natAbs : Int) < 10 ^ Int.toNat 60) = true := by
    refine decide_eq_true ?_
    have : (10 : Int) ^ Int.toNat 60 = ((10 ^ 60 : Nat) : Int) := by rfl
    rw [this]
    exact Int.ofNat_lt.mpr hn
  rw [e]
  exact q
theorem g_ixKT {K : PySem.W.Frag} {w : World} {H : Hp} {Q : VK} {d : Addr} {z : Str} {v : V} {kvs : List (Str × V)} (T : KTab K w d kvs) (e : (kvs.find? fun q => decide (q.1 = z)).map (·.2) = some v) (q : Q v H) : rIxG K w (.ref d) (.str z) H Q := .inr (.inr ⟨d, z, v, rfl, rfl, e ▸ T z, q⟩)
def spPartsOf : Sp := fun vs H Q _ => ∃ (v : V) (p : Part) (fs sc : List Str), vs = [v] ∧ Tp H v p.data ∧ p.ok fs sc ∧ p.size ≤ 60 ∧ ∀ (l : Addr) (us : List V) (H' : Hp), H l = none → H' l = some (.lst us) → Tps H' us (p.kids.map Part.data) → Same H H' → Q (.ref l) H'
theorem pure_partsof {K : PySem.W.Frag} {w : World} (T : KTab K w (He.ga K "PARTS") PARTSkvs) : PureOk 1 spPartsOf (t_parts_of K w spIsWhole spIsSmall spIsName spAreRows) 2 := by
  refine ⟨fun vs H Q E ⟨_, _, _, _, e, _⟩ => by rw [e]; rfl, ?_⟩
  rintro vs H Q E ⟨v, p, fs, sc, rfl, t, hok, hz, q⟩
  show t_parts_of K w _ _ _ _ _ [some v, none] H
  unfold t_parts_of
  cases p with
  | shut a => exact hok.elim
  | num n =>
    obtain ⟨a, x, y, rfl, ea, t1, t2⟩ := t.two
    rw [t1.str_inv, t2.int_inv] at ea
    walk_at "gg"
    refine g_isi (r := true) (.tup ea) (by decide +kernel) ?_
    walk_at "gg"
    refine g_isi (r := true) (.str _) (by decide +kernel) ?_
    walk_at "gg"
    refine ⟨n, rfl, fun H1 s1 => ?_⟩
    walk_at "gg"
    refine ⟨n, rfl, hok, ?_⟩
    walk_at "gg"
    rename_i l H2 n2 e2 s2
    exact q l [] H2 (s1.free n2) e2 .nil (s1.trans s2)
  | name n =>
    obtain ⟨a, x, y, rfl, ea, t1, t2⟩ := t.two
    rw [t1.str_inv, t2.str_inv] at ea
    walk_at "gg"
    refine g_isi (r := true) (.tup ea) (by decide +kernel) ?_
    walk_at "gg"
    refine g_isi (r := true) (.str _) (by decide +kernel) ?_
    walk_at "gg"
    rename_i a1 H1 n1 e1 s1
    refine ⟨n, rfl, hok.2, fun H2 s2 => ?_⟩
    walk_at "gg"
    rename_i l H3 n3 e3 s3
    exact q l [] H3 (s1.free (s2.free n3)) e3 .nil (s1.trans (s2.trans s3))
  | fn n =>
    obtain ⟨a, x, y, rfl, ea, t1, t2⟩ := t.two
    rw [t1.str_inv, t2.str_inv] at ea
    walk_at "gg"
    refine g_isi (r := true) (.tup ea) (by decide +kernel) ?_
    walk_at "gg"
    refine g_isi (r := true) (.str _) (by decide +kernel) ?_
    walk_at "gg"
    rename_i a1 H1 n1 e1 s1
    refine ⟨n, rfl, hok.2, fun H2 s2 => ?_⟩
    walk_at "gg"
    rename_i l H3 n3 e3 s3
    exact q l [] H3 (s1.free (s2.free n3)) e3 .nil (s1.trans (s2.trans s3))
  | one k b =>
    obtain ⟨a, x, y, rfl, ea, t1, t2⟩ := t.two
    rw [t1.str_inv] at ea
    walk_at "gg"
    refine g_isi (r := true) (.tup ea) (by decide +kernel) ?_
    walk_at "gg"
    refine g_isi (r := true) (.str _) (by decide +kernel) ?_
    cases k with
    | left =>
      walk_at "gg"
      refine g_ixKT T (v := .int 1) rfl ?_
      walk_at "gg"
      rename_i p1 H1 n1 e1 s1
      refine g_slT (.of (s1 _ _ ea)) (not_whole (by simp)) fun p2 H2 n2 e2 s2 => ?_
      rw [cut_tail] at e2
      refine g_listT (.of e2) fun l H3 nl el s3 => ?_
      have s03 := s1.trans (s2.trans s3)
      exact q l _ H3 (s1.free (s2.free nl)) el (.one (t2.mono (Same.tk s03))) s03
    | right =>
      walk_at "gg"
      refine g_ixKT T (v := .int 1) rfl ?_
      walk_at "gg"
      rename_i p1 H1 n1 e1 s1
      refine g_slT (.of (s1 _ _ ea)) (not_whole (by simp)) fun p2 H2 n2 e2 s2 => ?_
      rw [cut_tail] at e2
      refine g_listT (.of e2) fun l H3 nl el s3 => ?_
      have s03 := s1.trans (s2.trans s3)
      exact q l _ H3 (s1.free (s2.free nl)) el (.one (t2.mono (Same.tk s03))) s03
  | two k b c =>
    obtain ⟨a, x, y, z, rfl, ea, t1, t2, t3⟩ := t.three
    rw [t1.str_inv] at ea
    walk_at "gg"
    refine g_isi (r := true) (.tup ea) (by decide +kernel) ?_
    walk_at "gg"
    refine g_isi (r := true) (.str _) (by decide +kernel) ?_
    cases k with
    | give =>
      walk_at "gg"
      refine g_ixKT T (v := .int 2) rfl ?_
      walk_at "gg"
      rename_i p1 H1 n1 e1 s1
      refine g_slT (.of (s1 _ _ ea)) (not_whole (by simp)) fun p2 H2 n2 e2 s2 => ?_
      rw [cut_tail] at e2
      refine g_listT (.of e2) fun l H3 nl el s3 => ?_
      have s03 := s1.trans (s2.trans s3)
      exact q l _ H3 (s1.free (s2.free nl)) el (.cons (t2.mono (Same.tk s03)) (.one (t3.mono (Same.tk s03)))) s03
    | plus =>
      walk_at "gg"
      refine g_ixKT T (v := .int 2) rfl ?_
      walk_at "gg"
      rename_i p1 H1 n1 e1 s1
      refine g_slT (.of (s1 _ _ ea)) (not_whole (by simp)) fun p2 H2 n2 e2 s2 => ?_
      rw [cut_tail] at e2
      refine g_listT (.of e2) fun l H3 nl el s3 => ?_
      have s03 := s1.trans (s2.trans s3)
      exact q l _ H3 (s1.free (s2.free nl)) el (.cons (t2.mono (Same.tk s03)) (.one (t3.mono (Same.tk s03)))) s03
    | less =>
      walk_at "gg"
      refine g_ixKT T (v := .int 2) rfl ?_
      walk_at "gg"
      rename_i p1 H1 n1 e1 s1
      refine g_slT (.of (s1 _ _ ea)) (not_whole (by simp)) fun p2 H2 n2 e2 s2 => ?_
      rw [cut_tail] at e2
      refine g_listT (.of e2) fun l H3 nl el s3 => ?_
      have s03 := s1.trans (s2.trans s3)
      exact q l _ H3 (s1.free (s2.free nl)) el (.cons (t2.mono (Same.tk s03)) (.one (t3.mono (Same.tk s03)))) s03
    | times =>
      walk_at "gg"
      refine g_ixKT T (v := .int 2) rfl ?_
      walk_at "gg"
      rename_i p1 H1 n1 e1 s1
      refine g_slT (.of (s1 _ _ ea)) (not_whole (by simp)) fun p2 H2 n2 e2 s2 => ?_
      rw [cut_tail] at e2
      refine g_listT (.of e2) fun l H3 nl el s3 => ?_
      have s03 := s1.trans (s2.trans s3)
      exact q l _ H3 (s1.free (s2.free nl)) el (.cons (t2.mono (Same.tk s03)) (.one (t3.mono (Same.tk s03)))) s03
    | below =>
      walk_at "gg"
      refine g_ixKT T (v := .int 2) rfl ?_
      walk_at "gg"
      rename_i p1 H1 n1 e1 s1
      refine g_slT (.of (s1 _ _ ea)) (not_whole (by simp)) fun p2 H2 n2 e2 s2 => ?_
      rw [cut_tail] at e2
      refine g_listT (.of e2) fun l H3 nl el s3 => ?_
      have s03 := s1.trans (s2.trans s3)
      exact q l _ H3 (s1.free (s2.free nl)) el (.cons (t2.mono (Same.tk s03)) (.one (t3.mono (Same.tk s03)))) s03
    | pair =>
      walk_at "gg"
      refine g_ixKT T (v := .int 2) rfl ?_
      walk_at "gg"
      rename_i p1 H1 n1 e1 s1
      refine g_slT (.of (s1 _ _ ea)) (not_whole (by simp)) fun p2 H2 n2 e2 s2 => ?_
      rw [cut_tail] at e2
      refine g_listT (.of e2) fun l H3 nl el s3 => ?_
      have s03 := s1.trans (s2.trans s3)
      exact q l _ H3 (s1.free (s2.free nl)) el (.cons (t2.mono (Same.tk s03)) (.one (t3.mono (Same.tk s03)))) s03
  | whn b c d =>
    obtain ⟨a, xs, rfl, ea, h1⟩ := t.tup_inv
    obtain ⟨x1, r1, rfl, t1, h1⟩ := h1.cons_inv
    obtain ⟨x2, r1, rfl, t2, h1⟩ := h1.cons_inv
    obtain ⟨x3, r1, rfl, t3, h1⟩ := h1.cons_inv
    obtain ⟨x4, r1, rfl, t4, h1⟩ := h1.cons_inv
    rw [h1.nil_inv, t1.str_inv] at ea
    clear h1
    walk_at "gg"
    refine g_isi (r := true) (.tup ea) (by decide +kernel) ?_
    walk_at "gg"
    refine g_isi (r := true) (.str _) (by decide +kernel) ?_
    walk_at "gg"
    refine g_ixKT T (v := .int 3) rfl ?_
    walk_at "gg"
    rename_i p1 H1 n1 e1 s1
    refine g_slT (.of (s1 _ _ ea)) (not_whole (by simp)) fun p2 H2 n2 e2 s2 => ?_
    rw [cut_tail] at e2
    refine g_listT (.of e2) fun l H3 nl el s3 => ?_
    have s03 := s1.trans (s2.trans s3)
    exact q l _ H3 (s1.free (s2.free nl)) el (.cons (t2.mono (Same.tk s03)) (.cons (t3.mono (Same.tk s03)) (.one (t4.mono (Same.tk s03))))) s03
  | letp r b =>
    obtain ⟨a, x, y, z, rfl, ea, t1, t2, t3⟩ := t.three
    rw [t1.str_inv] at ea
    obtain ⟨ra, rs, rfl, er, tr⟩ := t2.tup_inv
    have hrl : rs.length = r.parts.length := by rw [tr.length, r.len]
    have hnl : r.names.length = r.parts.length := by rw [Rows.list_names, Rows.list_parts, List.length_map, List.length_map]
    have hpos : r.names.length ≠ 0 := fun e => hok.2.1 (List.eq_nil_of_length_eq_zero e)
    have hfew := hok.1
    walk_at "gg"
    refine g_isi (r := true) (.tup ea) (by decide +kernel) ?_
    walk_at "gg"
    refine g_isi (r := true) (.str _) (by decide +kernel) ?_
    walk_at "gg"
    rename_i p1 H1 n1 e1 s1
    refine ⟨ra, rs, rfl, s1 _ _ er, by omega, by omega, fun i v hv => ?_, fun H2 s2 => ?_⟩
    · obtain ⟨d, hd, tx⟩ := tr.get hv
      obtain ⟨nm, p, hnm, hp, rfl⟩ := Rows.get hd
      obtain ⟨a2, u1, u2, rfl, ea2, tn, tp⟩ := tx.two
      rw [tn.str_inv] at ea2
      exact ⟨a2, nm, u2, rfl, s1 _ _ ea2, hok.2.2.1 nm (List.mem_of_getElem? hnm)⟩
    have s02 := s1.trans s2
    have ea2 := s02 _ _ ea
    have er2 := s02 _ _ er
    have tr2 := tr.mono (Same.tk s02)
    clear er ea tr s1 s2 e1 n1
    walk_at "gg"
    refine g_seqT ?_
    walk_at "gg"
    refine lc_mapT er2 (by omega) (fun i y H' => ∃ p, r.parts[i]? = some p ∧ Tp H' y p.data) (fun i y H H' k ⟨p, h1, h2⟩ => ⟨p, h1, h2.mono k⟩) ?_ ?_
    · intro i v H' Nx hv s hN
      obtain ⟨d, hd, tx⟩ := tr2.get hv
      obtain ⟨nm, p, hnm, hp, rfl⟩ := Rows.get hd
      obtain ⟨a2, u1, u2, rfl, ea2, tn, tp⟩ := tx.two
      walk_at "gg"
      refine ⟨rfl, ?_⟩
      walk_at "gg"
      exact hN _ _ (.refl _) ⟨p, hp, tp.mono (Same.tk s)⟩
    · intro D ys H3 nD eD hys hF s3
      walk_at "gg"
      rename_i l4 H4 n4 e4 s4 l5 H5 n5 e5 s5
      have s45 := s4.trans s5
      have s05 := s02.trans (s3.trans s45)
      refine q l5 _ H5 (s02.free (s3.free (s4.free n5))) e5 ?_ s05
      show Tps H5 _ ((r.parts ++ [b]).map Part.data)
      rw [List.map_append]
      refine Tps.append (Tps.of_get (by rw [List.length_map, hys, hrl]) fun i y hy => ?_) (.one (t3.mono (Same.tk s05)))
      obtain ⟨p, hp, tp⟩ := hF i y hy
      exact ⟨_, by rw [List.getElem?_map, hp]; rfl, tp.mono (Same.tk s45)⟩

/-! ### looks: bodies -/
def spIsBody : Sp := fun vs H Q _ => ∃ (v : V) (p : Part) (fs sc : List Str), vs = [v] ∧ Tp H v p.data ∧ p.ok fs sc ∧ p.deep ≤ 12 ∧ p.size ≤ 60 ∧ ∀ H', Same H H' → Q (.bl true) H'
theorem Part.deep_pos (p : Part) : 1 ≤ p.deep := by have := p.mxd_kids; omega
theorem pure_isbody {K : PySem.W.Frag} {w : World} : PureOk 1 spIsBody (t_is_body K w spPartsOf) 7 := by
  refine ⟨fun vs H Q E ⟨_, _, _, _, e, _⟩ => by rw [e]; rfl, ?_⟩
  rintro vs H Q E ⟨v, p, fs, sc, rfl, t, hok, hdp, hz, q⟩
  show t_is_body K w _ _ [some v, none, none, none, none, none, none] H
  unfold t_is_body
  walk_at "gg"
  rename_i a1 H1 n1 e1 s1 pl H2 n2 e2 s2
  have npl : H pl = none := s1.free n2
  refine while_any (fun m σ H' => ∃ (x3 x4 x5 x6 : Option V) (many : Nat) (vs : List V) (ps : List (Part × Nat)), σ = [some v, some (.int many), some (.ref pl), x3, x4, x5, x6] ∧ H' pl = some (.lst vs) ∧ Tps H' vs (ps.map pd) ∧
      (∀ q ∈ ps, (∃ fs sc, q.1.ok fs sc) ∧ q.1.deep + q.2 ≤ 13) ∧ many + dsz ps ≤ 60 ∧ m = dsz ps ∧ Same H H') (p.size + 0)
    ⟨none, none, none, none, 0, [.ref a1], [(p, 1)], rfl, e2, .cons (.tup (s2 _ _ e1) (.cons (t.mono (Same.tk (s1.trans s2))) (.one (.int _)))) .nil, fun x hx => by rw [List.mem_singleton.mp hx]; exact ⟨⟨fs, sc, hok⟩, by show p.deep + 1 ≤ 13; omega⟩, by show 0 + (p.size + 0) ≤ 60; omega, rfl, s1.trans s2⟩ ?_
  rintro m σ H3 ⟨x3, x4, x5, x6, many, vs, ps, rfl, hp, tp, hgs, hmany, rfl, s3⟩
  have hvl : vs.length = ps.length := by rw [tp.length, List.length_map]
  walk_at "gg"
  rename_i l4 H4 n4 e4 s4
  have s04 := s3.trans s4
  have hp4 := s4 _ _ hp
  rcases List.eq_nil_or_concat ps with rfl | ⟨ps', ⟨p1, d1⟩, hcat⟩
  · have hvs : vs = [] := List.eq_nil_of_length_eq_zero hvl
    subst hvs
    refine g_F rfl ?_
    walk_at "gg"
    exact q _ s04
  · rw [List.concat_eq_append] at hcat
    subst hcat
    rw [List.map_append] at tp
    obtain ⟨vs', v1, rfl, tp', t1⟩ := tp.snoc_inv
    refine g_T (by cases vs' <;> rfl) ?_
    refine g_turn ?_
    obtain ⟨a5, u1, u2, rfl, ea5, tu1, tu2⟩ := Tp.two (d := p1.data) (e := .int d1) t1
    rw [tu2.int_inv] at ea5
    obtain ⟨⟨fs1, sc1, hok1⟩, hd1⟩ := hgs (p1, d1) (by simp)
    have hd1' : p1.deep + d1 ≤ 13 := hd1
    have hz1 : p1.size ≤ 60 := Nat.le_trans (dsz_mem (q := (p1, d1)) (a := ps' ++ [(p1, d1)]) (by simp)) (by omega)
    have h3 := dsz_app ps' [(p1, d1)]
    have h4 : dsz [(p1, d1)] = p1.size := Nat.add_zero _
    have hsp := p1.size_pos
    have hszk := p1.sz_kids
    have hmxk := p1.mxd_kids
    have hdpos := p1.deep_pos
    have hlk := sz_len p1.kids
    have hlps := dsz_len ps'
    have hvl' : vs'.length = ps'.length := by rw [tp'.length, List.length_map]
    have tp4' := tp'.mono (Same.tk s4)
    have tu14 := tu1.mono (Same.tk s4)
    have ea54 := s4 _ _ ea5
    clear tp tu1 ea5 hp s3 s4 e4 n4 t1 tp'
    walk_at "gg"
    refine g_pop hp4 ?_
    walk_at "gg"
    rename_i H5 e5 c5
    have s05 : Same H H5 := Same.chg s04 npl c5
    have k45 : Tk H4 H5 := c5.tkl hp4
    have tp5' := tp4'.mono k45
    have tu15 := tu14.mono k45
    have ea55 := k45 _ _ ea54
    clear tp4' tu14 ea54 k45 hp4 c5 s04
    refine g_un2 ea55 ?_
    walk_at "gg"
    refine ⟨u1, p1, fs1, sc1, rfl, tu15, hok1, hz1, fun l ks H7 nl7 el7 tk7 s7 => ?_⟩
    have hkl : ks.length = p1.kids.length := by rw [tk7.length, List.length_map]
    have e75 := s7 _ _ e5
    have tp7' := tp5'.mono (Same.tk s7)
    have s07 := s05.trans s7
    clear e5 tp5' tu15 ea55 s05 s7
    walk_at "gg"
    refine .inl ⟨rfl, ?_⟩
    walk_at "gg"
    refine g_F (decide_eq_false (by omega)) ?_
    walk_at "gg"
    refine g_F (decide_eq_false (by omega)) ?_
    walk_at "gg"
    refine g_seqL ?_
    walk_at "gg"
    refine lc_mapL el7 (by omega) (fun i y H' => ∃ p2, p1.kids[i]? = some p2 ∧ Tp H' y (pd (p2, d1 + 1))) (fun i y H H' k ⟨p2, h1, h2⟩ => ⟨p2, h1, h2.mono k⟩) ?_ ?_
    · intro i x H' Nx hx s hN
      obtain ⟨dt, hdt, tx⟩ := tk7.get hx
      rw [List.getElem?_map] at hdt
      obtain ⟨p2, hp2, rfl⟩ := Option.map_eq_some_iff.mp hdt
      walk_at "gg"
      refine ⟨rfl, ?_⟩
      walk_at "gg"
      rename_i a8 H8 n8 e8 s8
      exact hN _ _ s8 ⟨p2, hp2, .tup e8 (.cons ((tx.mono (Same.tk s)).mono (Same.tk s8)) (.one (.int _)))⟩
    · intro D ys H8 nD eD hys hF s8
      have e85 := s8 _ _ e75
      walk_at "gg"
      refine g_extend e85 eD (by show _ ≤ 16777216; omega) ?_
      walk_at "gg"
      rename_i H9 e9 c9
      have k89 : Tk H8 H9 := c9.tkl e85
      have hm9 : dsz (ps' ++ p1.kids.map fun q => (q, d1 + 1)) = dsz ps' + sz p1.kids := by rw [dsz_app, dsz_map]
      refine ⟨_, ?_, _, _, _, _, many + 1, _, ps' ++ p1.kids.map fun q => (q, d1 + 1), rfl, e9, ?_, ?_, ?_, rfl, Same.chg (s07.trans s8) npl c9⟩
      · omega
      · rw [List.map_append]
        refine Tps.append ((tp7'.mono (Same.tk s8)).mono k89) ?_
        rw [List.map_map]
        refine Tps.of_get (by rw [List.length_map, hys, hkl]) fun i y hy => ?_
        obtain ⟨p2, hp2, t2⟩ := hF i y hy
        exact ⟨_, by rw [List.getElem?_map, hp2]; rfl, t2.mono k89⟩
      · intro x hx
        rcases List.mem_append.mp hx with hx | hx
        · exact hgs x (List.mem_append.mpr (.inl hx))
        · obtain ⟨p2, hp2, rfl⟩ := List.mem_map.mp hx
          obtain ⟨sc2, hk2⟩ := Part.ok_kids hok1
          have := mxd_mem hp2
          exact ⟨⟨fs1, sc2, hk2 p2 hp2⟩, by show p2.deep + (d1 + 1) ≤ 13; omega⟩
      · omega
def spIsFunction : Sp := fun vs H Q _ => ∃ (v : V) (f : Fn1) (fs : List Str), vs = [v] ∧ Tp H v f.data ∧ f.fine fs ∧ ∀ H', Same H H' → Q (.bl true) H'
theorem pure_isfunction {K : PySem.W.Frag} {w : World} : PureOk 1 spIsFunction (t_is_function K w spIsName spIsBody) 2 := by
  refine ⟨fun vs H Q E ⟨_, _, _, e, _⟩ => by rw [e]; rfl, ?_⟩
  rintro vs H Q E ⟨v, f, fs, rfl, t, hf, q⟩
  show t_is_function K w _ _ _ [some v, none] H
  unfold t_is_function
  obtain ⟨a, b, u, rfl, ea, eb, tu⟩ := t.fn1
  have hfew := hf.few
  walk_at "gg"
  refine g_isi (r := true) (.tup ea) (by decide +kernel) ?_
  walk_at "gg"
  refine ⟨f.name, rfl, hf.nm, fun H1 s1 => ?_⟩
  have ea1 := s1 _ _ ea
  have eb1 := s1 _ _ eb
  have tu1 := tu.mono (Same.tk s1)
  clear ea eb tu t
  walk_at "gg"
  refine g_isi (r := true) (.tup eb1) (by decide +kernel) ?_
  walk_at "gg"
  refine g_T (decide_eq_true (by rw [List.length_map]; omega)) ?_
  walk_at "gg"
  refine g_seqT ?_
  walk_at "gg"
  refine lc_trueT eb1 (by rw [List.length_map]; omega) ?_ ?_
  · intro i x H' Nx hx s hN
    rw [List.getElem?_map] at hx
    obtain ⟨nm, hnm, rfl⟩ := Option.map_eq_some_iff.mp hx
    walk_at "gg"
    refine ⟨rfl, ?_⟩
    walk_at "gg"
    exact ⟨nm, rfl, hf.th nm (List.mem_of_getElem? hnm), fun H4 s4 => hN H4 s4⟩
  · intro D H' nD eD s
    walk_at "gg"
    refine ⟨D, _, rfl, SqL.of eD, ?_⟩
    rw [all_true]
    walk_at "gg"
    exact ⟨u, f.body, fs, f.things, rfl, tu1.mono (Same.tk s), hf.body.ok, hf.body.deep, hf.body.size, fun H'' s2 => q H'' (s1.trans (s.trans s2))⟩
def spIsBuilt : Sp := fun vs H Q _ => ∃ (v : V) (P : Prog), vs = [v] ∧ Tp H v P.data ∧ P.fine ∧ ∀ H', Same H H' → Q (.bl true) H'
theorem pure_isbuilt {K : PySem.W.Frag} {w : World} : PureOk 1 spIsBuilt (t_is_built K w spIsFunction spIsBody) 2 := by
  refine ⟨fun vs H Q E ⟨_, _, e, _⟩ => by rw [e]; rfl, ?_⟩
  rintro vs H Q E ⟨v, P, rfl, tP, hfine, q⟩
  show t_is_built K w _ _ _ [some v, none] H
  unfold t_is_built
  obtain ⟨pa, fa, u, vs, rfl, epa, efa, tfs, tas⟩ := tP.prog
  have hvl : vs.length = P.fs.length := by rw [tfs.length, List.length_map]
  have hfew := hfine.few
  walk_at "gg"
  refine g_isi (r := true) (.tup epa) (by decide +kernel) ?_
  walk_at "gg"
  refine g_isi (r := true) (.tup efa) (by decide +kernel) ?_
  walk_at "gg"
  refine g_T (decide_eq_true (by omega)) ?_
  walk_at "gg"
  refine g_seqT ?_
  walk_at "gg"
  refine lc_trueT efa (by omega) ?_ ?_
  · intro i x H' Nx hx s hN
    obtain ⟨d, hd, td⟩ := tfs.get hx
    rw [List.getElem?_map] at hd
    obtain ⟨f, hf, rfl⟩ := Option.map_eq_some_iff.mp hd
    walk_at "gg"
    refine ⟨rfl, ?_⟩
    walk_at "gg"
    exact ⟨x, f, P.names, rfl, td.mono (Same.tk s), hfine.fs f (List.mem_of_getElem? hf), fun H4 s4 => hN H4 s4⟩
  · intro D H' nD eD s
    walk_at "gg"
    refine ⟨D, _, rfl, SqL.of eD, ?_⟩
    rw [all_true]
    walk_at "gg"
    exact ⟨u, P.asked, P.names, [], rfl, tas.mono (Same.tk s), hfine.asked.ok, hfine.asked.deep, hfine.asked.size, fun H'' s2 => q H'' (s.trans s2)⟩

/-! ### looks: names of rows; unlike ones -/
def nmL : Part → List Str
  | .letp r _ => r.names
  | _ => []
mutual
theorem Part.rn_all : ∀ p : Part, p.all.flatMap nmL = p.rowNames
  | .num _ => rfl
  | .name _ => rfl
  | .fn _ => rfl
  | .shut _ => rfl
  | .one k a => by show (Part.one k a :: a.all).flatMap nmL = a.rowNames; rw [List.flatMap_cons, Part.rn_all a]; rfl
  | .two k a b => by show (Part.two k a b :: (a.all ++ b.all)).flatMap nmL = a.rowNames ++ b.rowNames; rw [List.flatMap_cons, List.flatMap_append, Part.rn_all a, Part.rn_all b]; rfl
  | .whn a b c => by show (Part.whn a b c :: (a.all ++ (b.all ++ c.all))).flatMap nmL = a.rowNames ++ (b.rowNames ++ c.rowNames); rw [List.flatMap_cons, List.flatMap_append, List.flatMap_append, Part.rn_all a, Part.rn_all b, Part.rn_all c]; rfl
  | .letp r a => by show (Part.letp r a :: (r.all ++ a.all)).flatMap nmL = r.names ++ (r.rowNames ++ a.rowNames); rw [List.flatMap_cons, List.flatMap_append, Rows.rn_all r, Part.rn_all a]; rfl
theorem Rows.rn_all : ∀ r : Rows, r.all.flatMap nmL = r.rowNames
  | .nil => rfl
  | .cons x a r => by show (a.all ++ r.all).flatMap nmL = a.rowNames ++ r.rowNames; rw [List.flatMap_append, Part.rn_all a, Rows.rn_all r]
end
mutual
theorem Part.rn_size : ∀ p : Part, p.rowNames.length < p.size
  | .num _ => Nat.lt_succ_self _
  | .name _ => Nat.lt_succ_self _
  | .fn _ => Nat.lt_succ_self _
  | .shut _ => Nat.lt_succ_self _
  | .one k a => by have := Part.rn_size a; show a.rowNames.length < 1 + a.size; omega
  | .two k a b => by have := Part.rn_size a; have := Part.rn_size b; show (a.rowNames ++ b.rowNames).length < 1 + (a.size + b.size); rw [List.length_append]; omega
  | .whn a b c => by have := Part.rn_size a; have := Part.rn_size b; have := Part.rn_size c; show (a.rowNames ++ (b.rowNames ++ c.rowNames)).length < 1 + (a.size + (b.size + c.size)); rw [List.length_append, List.length_append]; omega
  | .letp r a => by have := Rows.rn_size r; have := Part.rn_size a; show (r.names ++ (r.rowNames ++ a.rowNames)).length < 1 + (r.size + a.size); rw [List.length_append, List.length_append]; omega
theorem Rows.rn_size : ∀ r : Rows, r.names.length + r.rowNames.length ≤ r.size
  | .nil => Nat.le_refl _
  | .cons x a r => by have := Part.rn_size a; have := Rows.rn_size r; show r.names.length + 1 + (a.rowNames ++ r.rowNames).length ≤ a.size + r.size; rw [List.length_append]; omega
end
theorem flat_take {ps : List Part} (i : Nat) : ((ps.take i).flatMap nmL).length ≤ (ps.flatMap nmL).length := by
  have h : ps.flatMap nmL = (ps.take i).flatMap nmL ++ (ps.drop i).flatMap nmL := by rw [← List.flatMap_append, List.take_append_drop]
  rw [h, List.length_append]
  omega
theorem nmL_no {p : Part} (h : p.word ≠ "let") : nmL p = [] := by
  cases p with
  | letp r a => exact absurd rfl h
  | _ => rfl
theorem word_let {p : Part} (h : p.word = "let") : ∃ r a, p = .letp r a := by
  cases p with
  | letp r a => exact ⟨r, a, rfl⟩
  | two k a b => cases k <;> exact absurd h (by simp only [Part.word, K1.word, K2.word]; decide)
  | one k a => cases k <;> exact absurd h (by simp only [Part.word, K1.word, K2.word]; decide)
  | _ => exact absurd h (by simp only [Part.word, K1.word, K2.word]; decide)
def spRowNames : Sp := fun vs H Q _ => ∃ (v : V) (p : Part), vs = [v] ∧ Tp H v p.data ∧ p.good ∧ p.size ≤ 60 ∧ ∀ (l : Addr) (H' : Hp), H l = none → H' l = some (.lst (p.rowNames.map V.str)) → Same H H' → Q (.ref l) H'
theorem pure_rownames {K : PySem.W.Frag} {w : World} : PureOk 1 spRowNames (t_row_names K w spOrder) 5 := by
  refine ⟨fun vs H Q E ⟨_, _, e, _⟩ => by rw [e]; rfl, ?_⟩
  rintro vs H Q E ⟨v, p, rfl, t, hg, hz, q⟩
  show t_row_names K w _ _ [some v, none, none, none, none] H
  unfold t_row_names
  have hrn := p.rn_all
  have hrs := p.rn_size
  have hfl : (p.all.flatMap nmL).length = p.rowNames.length := by rw [hrn]
  walk_at "gg"
  rename_i fl H1 n1 e1 s1
  refine g_seqL ?_
  walk_at "gg"
  refine ⟨v, p, rfl, t.mono (Same.tk s1), hg, hz, fun l us H2 nl el tl s2 => ?_⟩
  have e2 := s2 _ _ e1
  walk_at "gg"
  have hne : l ≠ fl := (ne_of_none e1 nl).symm
  have hul : us.length = p.all.length := by rw [tl.length, List.length_map]
  refine for_L (xs := us) (fun i σ H' => ∃ x2 x3 x4, σ = [some v, some (.ref fl), x2, x3, x4] ∧ H' fl = some (.lst (((p.all.take i).flatMap nmL).map V.str)) ∧ Chg fl H2 H') (fun i σ H' ⟨_, _, _, _, _, c⟩ => c _ _ hne el) ⟨_, _, _, rfl, e2, Chg.refl⟩ ?_ ?_
  · rintro i x σ H3 hx ⟨x2, x3, x4, rfl, e3, c3⟩
    obtain ⟨d, hd, tx⟩ := tl.get hx
    rw [List.getElem?_map] at hd
    obtain ⟨p1, hp1, rfl⟩ := Option.map_eq_some_iff.mp hd
    have k23 : Tk H2 H3 := c3.tkl e2
    have tx3 := tx.mono k23
    have hft := flat_take (ps := p.all) i
    have htk : (p.all.take (i + 1)).flatMap nmL = (p.all.take i).flatMap nmL ++ nmL p1 := by
      rw [List.take_add_one, hp1, List.flatMap_append]
      show _ ++ (nmL p1 ++ []) = _
      rw [List.append_nil]
    have hft1 := flat_take (ps := p.all) (i + 1)
    rw [htk, List.length_append] at hft1
    obtain ⟨a, xs, rfl, ea, txs⟩ := tx3.part
    walk_at "gg"
    by_cases hw : p1.word = "let"
    · refine g_T (decide_eq_true hw) ?_
      obtain ⟨r, b, rfl⟩ := word_let hw
      obtain ⟨x5, r5, rfl, t5, tr5⟩ := Tps.cons_inv (show Tps H3 xs [.tuple r.datas, b.data] from txs)
      obtain ⟨x6, r6, rfl, t6, tr6⟩ := tr5.cons_inv
      rw [tr6.nil_inv] at ea
      have ea' : H3 a = some (.tup [.str "let", x5, x6]) := ea
      obtain ⟨ra, rs, rfl, er, tr⟩ := t5.tup_inv
      have hrl : rs.length = r.names.length := by rw [tr.length, r.len, Rows.list_names, Rows.list_parts, List.length_map, List.length_map]
      have hnl : (nmL (.letp r b)).length = r.names.length := rfl
      clear ea txs tr5 tr6
      walk_at "gg"
      refine g_seqT ?_
      walk_at "gg"
      refine lc_mapT er (by omega) (fun i y H' => ∃ nm, r.names[i]? = some nm ∧ y = .str nm) (fun i y H H' k h => h) ?_ ?_
      · intro j y H' Nx hy s hN
        obtain ⟨d, hd, ty⟩ := tr.get hy
        obtain ⟨nm, p2, hnm, hp2, rfl⟩ := Rows.get hd
        obtain ⟨a2, u1, u2, rfl, ea2, tn, tp⟩ := ty.two
        rw [tn.str_inv] at ea2
        walk_at "gg"
        refine ⟨rfl, ?_⟩
        walk_at "gg"
        exact hN _ _ (.refl _) ⟨nm, hnm, rfl⟩
      · intro D ys H4 nD eD hys hF s4
        have hys2 : ys = r.names.map V.str := by
          refine List.ext_getElem? fun i => ?_
          cases e : ys[i]? with
          | none =>
            rw [List.getElem?_eq_none_iff] at e
            rw [List.getElem?_eq_none (by rw [List.length_map]; omega)]
          | some y =>
            obtain ⟨nm, hq, rfl⟩ := hF i y e
            rw [List.getElem?_map, hq]
            rfl
        subst hys2
        have e34 := s4 _ _ e3
        walk_at "gg"
        refine g_extend e34 eD (by rw [List.length_map, List.length_map]; show _ ≤ 16777216; omega) ?_
        walk_at "gg"
        rename_i H5 e5 c5
        refine ⟨_, _, _, rfl, ?_, c3.trans ((Chg.same s4).trans c5)⟩
        rw [htk, List.map_append]
        exact e5
    · refine g_F (decide_eq_false hw) ?_
      walk_at "gg"
      exact ⟨_, _, _, rfl, by rw [htk, nmL_no hw, List.append_nil]; exact e3, c3⟩
  · rintro σ H3 ⟨x2, x3, x4, rfl, e3, c3⟩
    rw [hul, List.take_length, hrn] at e3
    walk_at "gg"
    exact q fl H3 n1 e3 (Same.chg (s1.trans s2) n1 c3)
def spUnlike : Sp := fun vs H Q _ => ∃ (l : Addr) (ns : List Str), vs = [.ref l] ∧ H l = some (.lst (ns.map V.str)) ∧ ns.Nodup ∧ ns.length ≤ 1000 ∧ ∀ H', Same H H' → Q .non H'

/-! ### looks: names known; a program looked at -/
def spNamed (m : Nat) : Sp := fun vs H Q _ => ∃ (v : V) (kl fl : Addr) (p : Part) (fs sc : List Str), vs = [v, .ref kl, .ref fl] ∧ Tp H v p.data ∧ p.ok fs sc ∧ p.deep ≤ m ∧ p.size ≤ 60 ∧ H kl = some (.lst (sc.map V.str)) ∧ H fl = some (.lst (fs.map V.str)) ∧ sc.length + 4 * m ≤ 100 ∧ ∀ H', Same H H' → Q .non H'
theorem PARTS_in {p : Part} (hw : plainWord p.word) (hs : p.word ≠ "shut") : (PARTSkvs.find? fun q => decide (q.1 = p.word)).isSome = true := by
  cases p with
  | one k a => cases k <;> rfl
  | two k a b => cases k <;> rfl
  | whn a b c => rfl
  | shut a => exact absurd rfl hs
  | num n => exact absurd (show ("number" : Str) ∈ [("number" : Str), "fun", "let", "name"] from by simp) hw
  | name n => exact absurd (show ("name" : Str) ∈ [("number" : Str), "fun", "let", "name"] from by simp) hw
  | fn n => exact absurd (show ("fun" : Str) ∈ [("number" : Str), "fun", "let", "name"] from by simp) hw
  | letp r a => exact absurd (show ("let" : Str) ∈ [("number" : Str), "fun", "let", "name"] from by simp) hw
theorem Part.ok_plain {fs sc : List Str} {p : Part} (h : p.ok fs sc) (hw : plainWord p.word) (hs : p.word ≠ "shut") : ∀ q ∈ p.kids, q.ok fs sc := by
  cases p with
  | one k a => intro x hx; rw [List.mem_singleton.mp hx]; exact h
  | two k a b =>
    intro x hx
    have hx' : x ∈ [a, b] := hx
    simp only [List.mem_cons, List.not_mem_nil, or_false] at hx'
    rcases hx' with rfl | rfl
    · exact h.1
    · exact h.2
  | whn a b c =>
    intro x hx
    have hx' : x ∈ [a, b, c] := hx
    simp only [List.mem_cons, List.not_mem_nil, or_false] at hx'
    rcases hx' with rfl | rfl | rfl
    · exact h.1
    · exact h.2.1
    · exact h.2.2
  | shut a => exact absurd rfl hs
  | num n => exact absurd (show ("number" : Str) ∈ [("number" : Str), "fun", "let", "name"] from by simp) hw
  | name n => exact absurd (show ("name" : Str) ∈ [("number" : Str), "fun", "let", "name"] from by simp) hw
  | fn n => exact absurd (show ("fun" : Str) ∈ [("number" : Str), "fun", "let", "name"] from by simp) hw
  | letp r a => exact absurd (show ("let" : Str) ∈ [("number" : Str), "fun", "let", "name"] from by simp) hw
theorem Rows.ok_at {fs sc : List Str} : ∀ {r : Rows}, r.ok fs sc → ∀ q ∈ r.parts, q.ok fs sc
  | .cons x a r, h, q, hq => by
    have hq' : q ∈ a :: r.parts := hq
    rcases List.mem_cons.mp hq' with rfl | hq'
    · exact h.1
    · exact Rows.ok_at (r := r) h.2 q hq'
def spLooked : Sp := fun vs H Q _ => ∃ (v : V) (P : Prog), vs = [v] ∧ Tp H v P.data ∧ P.fine ∧ ∀ H', Same H H' → Q v H'

/-! ### reading: words looked at, whatever they are -/
theorem tlS {s : Str} : SX.S s.cps.toList = s := SX.S_tl s
instance {s : Str} : Decidable (isName s) := by unfold isName; infer_instance
theorem g_cutW {A : Prop} (C : V → Hp → Prop) {B : V → Hp → Prop} (f : (∀ l H', C l H' → B l H') → A) (b : ∀ l H', C l H' → B l H') : A := f b
def digc (c : Nat) : Bool := decide (48 ≤ c) && decide (c ≤ 57)
def figs (s : Str) : List Nat := if s.cps.toList.take 1 = [45] then s.cps.toList.drop 1 else s.cps.toList
def isFigs (s : Str) : Bool := (decide (1 ≤ (figs s).length) && (decide ((figs s).length ≤ 60) && (figs s).all digc)) && (decide (s = "0") || !decide ((figs s)[0]? = some 48))
def isMark (s m : Str) : Bool := decide (SX.S (s.cps.toList.take 1) = m) && decide (isName (SX.S (s.cps.toList.drop 1)))
/-- a test of each sign of a text -/
theorem lc_signs {K : PySem.W.Frag} {g : TG} {te : TE} {vs : List Nat} {σ : L2.St} {H1 : Hp} {cs : List Nat} {f : Nat → Bool} {J : It} {Qd : Addr → Hp → Prop} (hJ1 : ∀ i H', i < cs.length → Same H1 H' → J.go i H') (hJ2 : ∀ H', Same H1 H' → J.stop cs.length H') (hl : cs.length ≤ 100000)
    (hs : ∀ (i : Nat) c x H' H'' (Nx : V → Hp → Prop), cs[i]? = some c → Same H1 H' → J.yld i H' x H'' → (∀ H4, Same H' H4 → Nx (.bl (f c)) H4) → g x (wipe σ vs) H'' fun σ2 H2 => wipe σ2 vs = wipe σ vs ∧ te σ2 H2 Nx)
    (hd : ∀ D H', Fr H1 D → H' D = some (.lst ((cs.map f).map V.bl)) → Same H1 H' → Qd D H') : LcR J g tYes te vs σ H1 Qd := by
  intro D hD
  refine lc_any cs.length (fun i acc H' => acc = ((cs.take i).map f).map V.bl ∧ Same H1 H') hD (fun H' _ s => ⟨by simp, s⟩) (fun i acc H' hi ⟨_, s⟩ => hJ1 i H' hi s) (fun acc H' ⟨_, s⟩ => hJ2 H' s) ?_ ?_
  · rintro i v acc H2 H' hi hla ⟨hacc, s2⟩ hd2 hy
    refine hs i cs[i] v _ _ _ (List.getElem?_eq_getElem hi) s2 hy fun H4 s4 => ?_
    refine lc_step (s4 _ _ hd2) hla (by show _ < 16777216; omega) fun H5 e5 c5 => ?_
    refine ⟨?_, Same.chg (s2.trans s4) hD c5⟩
    rw [hacc, List.take_add_one, List.getElem?_eq_getElem hi, Option.toList, List.map_append, List.map_append]
    rfl
  · rintro acc H' hd2 ⟨rfl, s⟩
    rw [List.take_length] at hd2
    exact hd D H' hD hd2 s
theorem all_map {cs : List Nat} {f : Nat → Bool} : (cs.map f).all id = cs.all f := by rw [List.all_map]; rfl
def alphc (c : Nat) : Bool := decide (97 ≤ c) && decide (c ≤ 122)
theorem alph_in (c : Nat) : (!(Builtin.Str.occurrences abc ⟨#[c]⟩ 0 abc.length 1).isEmpty) = alphc c := by
  rw [PySem.StrLaws.found_one]
  have key : ∀ l : List Nat, l = (List.range 26).map (97 + ·) → decide (c ∈ l) = alphc c := by
    intro l hl
    subst hl
    unfold alphc
    rw [← Bool.decide_and]
    refine decide_eq_decide.mpr ?_
    simp only [List.mem_map, List.mem_range]
    constructor
    · rintro ⟨k, h1, rfl⟩; omega
    · rintro ⟨h1, h2⟩; exact ⟨c - 97, by omega, by omega⟩
  exact key _ (by decide)
def figsText : Str := "0123456789"
theorem dig_in (c : Nat) : (!(Builtin.Str.occurrences figsText ⟨#[c]⟩ 0 figsText.length 1).isEmpty) = digc c := by
  rw [PySem.StrLaws.found_one]
  have key : ∀ l : List Nat, l = (List.range 10).map (48 + ·) → decide (c ∈ l) = digc c := by
    intro l hl
    subst hl
    unfold digc
    rw [← Bool.decide_and]
    refine decide_eq_decide.mpr ?_
    simp only [List.mem_map, List.mem_range]
    constructor
    · rintro ⟨k, h1, rfl⟩; omega
    · rintro ⟨h1, h2⟩; exact ⟨c - 48, by omega, by omega⟩
  exact key _ (by decide)
def spIsNameG : Sp := fun vs H Q _ => ∃ (s : Str), vs = [.str s] ∧ s.length ≤ 16777216 ∧ ∀ H', Same H H' → Q (.bl (decide (isName s))) H'
theorem pure_isnameG {K : PySem.W.Frag} {w : World} : PureOk 1 spIsNameG (t_is_name K w) 2 := by
  refine ⟨fun vs H Q E ⟨_, e, _⟩ => by rw [e]; rfl, ?_⟩
  rintro vs H Q E ⟨s, rfl, hl, q⟩
  show t_is_name K w _ [some (.str s), none] H
  unfold t_is_name
  walk_at "gg"
  refine g_isi (r := true) (.str s) (by decide +kernel) ?_
  walk_at "gg"
  refine g_chain ?_
  walk_at "gg"
  refine g_lenS hl ?_
  walk_at "gg"
  have hfin : ∀ (b : Bool), b = decide (isName s) → ∀ H', Same H H' → Q (.bl b) H' := fun b e H' s' => e ▸ q H' s'
  by_cases h1 : (1 : Int) ≤ (s.length : Int)
  · refine g_T (decide_eq_true h1) ?_
    walk_at "gg"
    by_cases h2 : (s.length : Int) ≤ 8
    · refine g_F (by rw [decide_eq_true h2]; rfl) ?_
      walk_at "gg"
      refine g_seqS ?_
      walk_at "gg"
      have hsz : s.cps.toList.length = s.length := by simp [Str.length]
      refine lc_signs (K := K) (cs := s.cps.toList) (f := alphc) (fun i H' hi _ => by show i < s.cps.size; rw [← Array.length_toList]; exact hi) (fun H' _ => by show s.cps.size ≤ _; rw [← Array.length_toList]; exact Nat.le_refl _) (by omega) ?_ ?_
      · rintro i c x H' H'' Nx hc s1 ⟨rfl, c', hc', rfl⟩ hN
        walk_at "gg"
        refine ⟨rfl, ?_⟩
        walk_at "gg"
        have e : c' = c := by
          rw [Array.getElem?_toList] at hc
          exact Option.some.inj (hc'.symm.trans hc)
        subst e
        refine .inr (.inl ⟨_, abc, rfl, rfl, ?_⟩)
        show Nx (.bl (!(Builtin.Str.occurrences abc ⟨#[c']⟩ 0 abc.length 1).isEmpty)) _
        rw [alph_in]
        exact hN _ (.refl _)
      · intro D H' nD eD s1
        walk_at "gg"
        refine ⟨D, _, rfl, SqL.of eD, ?_⟩
        rw [all_map]
        refine hfin _ ?_ H' s1
        rw [Bool.eq_iff_iff, List.all_eq_true, decide_eq_true_iff]
        unfold alphc isName
        constructor
        · intro h
          exact ⟨by omega, by omega, fun c hc => by have := h c hc; simp only [Bool.and_eq_true, decide_eq_true_iff] at this; omega⟩
        · rintro ⟨_, _, h⟩ c hc
          have := h c hc
          simp only [Bool.and_eq_true, decide_eq_true_iff]; omega
    · refine g_T (by rw [decide_eq_false h2]; rfl) ?_
      walk_at "gg"
      exact hfin _ (by rw [decide_eq_false]; unfold isName; omega) H (.refl _)
  · refine g_F (decide_eq_false h1) ?_
    walk_at "gg"
    exact hfin _ (by rw [decide_eq_false]; unfold isName; omega) H (.refl _)
theorem cut1 (s : Str) : cutS s none (some 1) = SX.S (s.cps.toList.take 1) := by
  cases h : s.cps.toList with
  | nil =>
    have e : s = SX.S [] := by rw [← h, tlS]
    rw [e]; decide +kernel
  | cons c cs =>
    have e : s = SX.S (c :: cs) := by rw [← h, tlS]
    have := cutS_to (c :: cs) 1 (by simp)
    rw [e]; exact this
theorem cut2 (s : Str) : cutS s (some 1) none = SX.S (s.cps.toList.drop 1) := by
  cases h : s.cps.toList with
  | nil =>
    have e : s = SX.S [] := by rw [← h, tlS]
    rw [e]; decide +kernel
  | cons c cs =>
    have e : s = SX.S (c :: cs) := by rw [← h, tlS]
    have := cutS_from (c :: cs) 1 (by simp)
    rw [e]; exact this
theorem lenTl (s : Str) : s.cps.toList.length = s.length := by simp [Str.length]
def spIsMark : Sp := fun vs H Q _ => ∃ (s m : Str), vs = [.str s, .str m] ∧ s.length ≤ 16777216 ∧ ∀ H', Same H H' → Q (.bl (isMark s m)) H'
def spIsFigs : Sp := fun vs H Q _ => ∃ (s : Str), vs = [.str s] ∧ s.length ≤ 16777216 ∧ ∀ H', Same H H' → Q (.bl (isFigs s)) H'
theorem figs_rest {K : PySem.W.Frag} {w : World} {H : Hp} {Q : VK} {s : Str} {D : Ends} (hl : s.length ≤ 16777216) (q : ∀ H', Same H H' → Q (.bl (isFigs s)) H') (hD : D.rt = Q) : (tSeq (tIfS (tOr (tNot (tTest (tChain rLeG rLeG (tC (.int 1)) (tCB (rLenG K) (tCons (tVar 1) tNil)) (tC (.int 60))))) (tNot (tTru K (tCB (rAll K) (tCons (tLc (iSeq K (tVar 1)) (gName 2) tYes (tOp (rInG K w false) (tVar 2) (tC (.str "0123456789"))) [2]) tNil))))) (tRet (tC (.bl false))) tNext)
  (tRet (tOrT K (tOp (rEqG K) (tVar 0) (tC (.str "0"))) (tOp (rNeG K) (tIxG K w (tVar 1) (tC (.int 0))) (tC (.str "0")))))) D [some (.str s), some (.str (SX.S (figs s))), none] H := by
  subst hD
  have hfl : (figs s).length ≤ 16777216 := by
    unfold figs
    split
    · rw [List.length_drop, lenTl]; omega
    · rw [lenTl]; omega
  walk_at "gg"
  refine g_chain ?_
  walk_at "gg"
  refine g_lenS (by rw [SX.S_len]; exact hfl) ?_
  rw [SX.S_len]
  walk_at "gg"
  unfold isFigs at q
  by_cases h1 : 1 ≤ (figs s).length
  · refine g_T (decide_eq_true (by omega)) ?_
    walk_at "gg"
    rw [decide_eq_true h1, Bool.true_and] at q
    by_cases h2 : (figs s).length ≤ 60
    · refine g_F (by rw [decide_eq_true (by omega : ((figs s).length : Int) ≤ 60)]; rfl) ?_
      walk_at "gg"
      rw [decide_eq_true h2, Bool.true_and] at q
      refine g_seqS ?_
      walk_at "gg"
      refine lc_signs (K := K) (cs := figs s) (f := digc) (fun i H' hi _ => by show i < (SX.S (figs s)).cps.size; rw [← Array.length_toList]; exact hi) (fun H' _ => by show (SX.S (figs s)).cps.size ≤ _; rw [← Array.length_toList]; exact Nat.le_refl _) (by omega) ?_ ?_
      · rintro i c x H1 H2 Nx hc s1 ⟨rfl, c', hc', rfl⟩ hN
        walk_at "gg"
        refine ⟨rfl, ?_⟩
        walk_at "gg"
        have e : c' = c := by
          rw [← Array.getElem?_toList] at hc'
          exact Option.some.inj (hc'.symm.trans hc)
        subst e
        refine .inr (.inl ⟨_, figsText, rfl, rfl, ?_⟩)
        show Nx (.bl (!(Builtin.Str.occurrences figsText ⟨#[c']⟩ 0 figsText.length 1).isEmpty)) _
        rw [dig_in]
        exact hN _ (.refl _)
      · intro D H1 nD eD s1
        walk_at "gg"
        refine ⟨D, _, rfl, SqL.of eD, ?_⟩
        rw [all_map]
        by_cases h3 : (figs s).all digc = true
        · rw [h3]
          rw [h3, Bool.true_and] at q
          walk_at "gg"
          by_cases h4 : s = "0"
          · rw [decide_eq_true h4]
            rw [decide_eq_true h4, Bool.true_or] at q
            walk_at "gg"
            exact q H1 s1
          · rw [decide_eq_false h4]
            rw [decide_eq_false h4, Bool.false_or] at q
            walk_at "gg"
            obtain ⟨c, hc⟩ : ∃ c, (figs s)[0]? = some c := ⟨_, List.getElem?_eq_getElem (by omega)⟩
            refine g_ixS (by rw [SX.S_len]; exact hfl) (c := c) (atI_of (by decide) hc) ?_
            walk_at "gg"
            have e : decide ((⟨#[c]⟩ : Str) = "0") = decide ((figs s)[0]? = some 48) := by
              rw [hc]
              refine decide_eq_decide.mpr ⟨fun e => ?_, fun e => ?_⟩
              · have := congrArg (fun z : Str => z.cps.toList) e
                have h5 : [c] = [48] := this
                injection h5 with h5
                rw [h5]
              · cases e; rfl
            rw [e]
            exact q H1 s1
        · rw [Bool.not_eq_true] at h3
          rw [h3]
          rw [h3, Bool.false_and] at q
          walk_at "gg"
          exact q H1 s1
    · refine g_T (by rw [decide_eq_false (by omega : ¬ ((figs s).length : Int) ≤ 60)]; rfl) ?_
      walk_at "gg"
      rw [decide_eq_false h2, Bool.false_and, Bool.false_and] at q
      exact q H (.refl _)
  · refine g_F (decide_eq_false (by omega)) ?_
    walk_at "gg"
    rw [decide_eq_false h1, Bool.false_and, Bool.false_and] at q
    exact q H (.refl _)

/-! ### alike -/
theorem Tp.likeR {K : PySem.W.Frag} {H : Hp} {ds : List PyData} {v v' : V} {n : Nat} (h : Tp H v (.tuple ds)) (h' : Tp H v' (.tuple ds)) (hn : PyData.depthAll ds < n) : LkR K H (Lk K H n) v v' := by
  cases h with
  | tup e r =>
    cases h' with
    | tup e' r' => exact .inr ⟨_, _, _, _, rfl, rfl, .of e, .of e', Tps.like r r' hn⟩
theorem Part.depthAll (p : Part) : PyData.depthAll (.str p.word :: p.args) < PyData.depth p.data := by
  rw [p.data_eq, PyData.depth]
  omega
theorem Tp.likeP {K : PySem.W.Frag} {H : Hp} {p : Part} {v v' : V} {n : Nat} (h : Tp H v p.data) (h' : Tp H v' p.data) (hn : PyData.depth p.data ≤ n) : LkR K H (Lk K H n) v v' := by
  have := p.depthAll
  rw [p.data_eq] at h h'
  exact Tp.likeR h h' (by omega)
section
variable {K : PySem.W.Frag} {H : Hp} {x y : V} {Q : VK}
theorem g_neLk {n : Nat} (h : LkR K H (Lk K H n) x y) (hn : n ≤ 150) (q : Q (.bl false) H) : rNeG K x y H Q := .inr (.inr (.inr (.inl ⟨n, hn, h, q⟩)))
theorem g_eqLk {n : Nat} (h : LkR K H (Lk K H n) x y) (hn : n ≤ 150) (q : Q (.bl true) H) : rEqG K x y H Q := .inr (.inr (.inr (.inl ⟨n, hn, h, q⟩)))
theorem g_neSame {a b : Addr} {kvs : List (Key × V)} (h : H a = some (.dK kvs)) (h' : H b = some (.dK kvs)) (ok : ∀ p ∈ kvs, valV kvs p.1 = some p.2 ∧ flatR p.2 = true) (q : Q (.bl false) H) : rNeG K (.ref a) (.ref b) H Q :=
  .inr (.inr (.inl ⟨a, b, kvs, kvs, rfl, rfl, h, h', rfl, ok, q⟩))
end

/-! ### anything plain: none, truths, numbers, texts, tuples, lists (these are not looked into) -/
mutual
inductive Gq (H : Hp) : V → PyData → Prop
  | non : Gq H .non .none
  | bl (b : Bool) : Gq H (.bl b) (.bool b)
  | int (i : Int) : Gq H (.int i) (.int i)
  | str (x : Str) : x.length ≤ 16777216 → Gq H (.str x) (.str x)
  | tup {a : Addr} {xs : List V} {ds : List PyData} : H a = some (.tup xs) → Gqs H xs ds → Gq H (.ref a) (.tuple ds)
  | lst {a : Addr} {xs : List V} {ds : List PyData} : H a = some (.lst xs) → Gq H (.ref a) (.list ds)
inductive Gqs (H : Hp) : List V → List PyData → Prop
  | nil : Gqs H [] []
  | cons {v : V} {vs : List V} {d : PyData} {ds : List PyData} : Gq H v d → Gqs H vs ds → Gqs H (v :: vs) (d :: ds)
end
/-- the tuples stay, the lists stay lists -/
structure Tl (H H' : Hp) : Prop where
  tup : Tk H H'
  lst : ∀ a xs, H a = some (.lst xs) → ∃ ys, H' a = some (.lst ys)
theorem Tl.refl (H : Hp) : Tl H H := ⟨Tk.refl H, fun _ xs e => ⟨xs, e⟩⟩
theorem Tl.trans {H H1 H2 : Hp} (a : Tl H H1) (b : Tl H1 H2) : Tl H H2 := ⟨a.tup.trans b.tup, fun c xs e => by obtain ⟨ys, h⟩ := a.lst c xs e; exact b.lst c ys h⟩
theorem Same.tl {H H' : Hp} (s : Same H H') : Tl H H' := ⟨Same.tk s, fun a xs e => ⟨xs, s _ _ e⟩⟩
theorem Chg.tl {H H' : Hp} {a : Addr} {ys zs : List V} (c : Chg a H H') (h : H a = some (.lst ys)) (h' : H' a = some (.lst zs)) : Tl H H' := ⟨c.tkl h, fun b xs e => by
  by_cases hb : b = a
  · subst hb; exact ⟨zs, h'⟩
  · exact ⟨xs, c _ _ hb e⟩⟩
mutual
theorem Gq.mono {H H' : Hp} (k : Tl H H') : ∀ {d : PyData} {v : V}, Gq H v d → Gq H' v d
  | .none, _, h => by cases h; exact .non
  | .bool b, _, h => by cases h; exact .bl b
  | .int i, _, h => by cases h; exact .int i
  | .str x, _, h => by cases h with | str _ q => exact .str x q
  | .tuple ds, _, h => by
    cases h with
    | tup e r => exact .tup (k.tup _ _ e) (Gqs.mono k r)
  | .list ds, _, h => by
    cases h with
    | lst e => obtain ⟨ys, q⟩ := k.lst _ _ e; exact .lst q
  | .dict ds, _, h => by cases h
theorem Gqs.mono {H H' : Hp} (k : Tl H H') : ∀ {ds : List PyData} {vs : List V}, Gqs H vs ds → Gqs H' vs ds
  | [], _, h => by cases h; exact .nil
  | d :: ds, _, h => by
    cases h with
    | cons a b => exact .cons (Gq.mono k a) (Gqs.mono k b)
end
section
variable {H : Hp} {xs ys : List V} {ds es : List PyData} {v : V} {d : PyData}
theorem Gqs.length : ∀ {xs : List V} {ds : List PyData}, Gqs H xs ds → xs.length = ds.length
  | [], _, h => by cases h; rfl
  | x :: xs, _, h => by
    cases h with
    | cons a b => rw [List.length_cons, List.length_cons, Gqs.length b]
theorem Gqs.append : ∀ {xs : List V} {ds : List PyData}, Gqs H xs ds → Gqs H ys es → Gqs H (xs ++ ys) (ds ++ es)
  | [], _, h, h2 => by cases h; exact h2
  | x :: xs, _, h, h2 => by
    cases h with
    | cons a b => exact .cons a (Gqs.append b h2)
theorem Gqs.get : ∀ {xs : List V} {ds : List PyData} {i : Nat} {v : V}, Gqs H xs ds → xs[i]? = some v → ∃ d, ds[i]? = some d ∧ Gq H v d
  | [], _, i, v, _, e => by simp at e
  | x :: xs, _, 0, v, h, e => by
    cases h with
    | cons a b =>
      simp only [List.getElem?_cons_zero, Option.some.injEq] at e
      subst e
      exact ⟨_, rfl, a⟩
  | x :: xs, _, i + 1, v, h, e => by
    cases h with
    | cons a b =>
      rw [List.getElem?_cons_succ] at e
      obtain ⟨d, h1, h2⟩ := Gqs.get b e
      exact ⟨d, by rw [List.getElem?_cons_succ]; exact h1, h2⟩
theorem Gqs.cons_inv {vs : List V} (h : Gqs H vs (d :: ds)) : ∃ v us, vs = v :: us ∧ Gq H v d ∧ Gqs H us ds := by
  cases h with
  | cons a b => exact ⟨_, _, rfl, a, b⟩
theorem Gqs.nil_inv {vs : List V} (h : Gqs H vs []) : vs = [] := by cases h; rfl
theorem Gq.tup_inv (h : Gq H v (.tuple ds)) : ∃ a xs, v = .ref a ∧ H a = some (.tup xs) ∧ Gqs H xs ds := by
  cases h with
  | tup e r => exact ⟨_, _, rfl, e, r⟩
theorem Gq.str_inv {s : Str} (h : Gq H v (.str s)) : v = .str s ∧ s.length ≤ 16777216 := by
  cases h with
  | str _ q => exact ⟨rfl, q⟩
theorem Gqs.one (h : Gq H v d) : Gqs H [v] [d] := .cons h .nil
theorem Gqs.snoc_inv : ∀ {ds : List PyData} {e : PyData} {us : List V}, Gqs H us (ds ++ [e]) → ∃ vs v, us = vs ++ [v] ∧ Gqs H vs ds ∧ Gq H v e
  | [], e, us, h => by
    obtain ⟨v, us', rfl, h1, h2⟩ := Gqs.cons_inv h
    rw [h2.nil_inv]
    exact ⟨[], v, rfl, .nil, h1⟩
  | d :: ds, e, us, h => by
    obtain ⟨v, us', rfl, h1, h2⟩ := Gqs.cons_inv h
    obtain ⟨ws, u, rfl, h3, h4⟩ := Gqs.snoc_inv h2
    exact ⟨v :: ws, u, rfl, .cons h1 h3, h4⟩
theorem Gqs.of_get : ∀ {us : List V} {ds : List PyData}, us.length = ds.length → (∀ (i : Nat) y, us[i]? = some y → ∃ d, ds[i]? = some d ∧ Gq H y d) → Gqs H us ds
  | [], [], _, _ => .nil
  | u :: us, d :: ds, hl, h => by
    refine .cons ?_ (Gqs.of_get (Nat.succ.inj hl) fun i y hy => h (i + 1) y hy)
    obtain ⟨d', h1, h2⟩ := h 0 u rfl
    cases h1
    exact h2
end
def tyM : PyData → String
  | .none => "NoneType"
  | .bool _ => "bool"
  | .int _ => "int"
  | .str _ => "str"
  | .tuple _ => "tuple"
  | .list _ => "list"
  | .dict _ => "dict"
theorem Gq.ty {K : PySem.W.Frag} {H : Hp} {v : V} {d : PyData} (h : Gq H v d) : TyOf K H v (.type (tyM d)) := by
  cases h with
  | non => exact .non
  | bl b => exact .bl b
  | int i => exact .int i
  | str x _ => exact .str x
  | tup e _ => exact .tup e
  | lst e => exact .lst e
def isTupM : PyData → Bool
  | .tuple _ => true
  | _ => false
def isStrM : PyData → Bool
  | .str _ => true
  | _ => false
def isIntM : PyData → Bool
  | .int _ => true
  | .bool _ => true
  | _ => false
def isBoolM : PyData → Bool
  | .bool _ => true
  | _ => false
section
variable {K : PySem.W.Frag} {H : Hp} {v : V} {d : PyData} {Q : VK}
theorem g_isiTup (h : Gq H v d) (q : Q (.bl (isTupM d)) H) : rIsiG K [v, .ty "tuple"] H Q := g_isi h.ty (by cases h <;> (simp only [tyM, isTupM]; decide +kernel)) q
theorem g_isiStr (h : Gq H v d) (q : Q (.bl (isStrM d)) H) : rIsiG K [v, .ty "str"] H Q := g_isi h.ty (by cases h <;> (simp only [tyM, isStrM]; decide +kernel)) q
theorem g_isiInt (h : Gq H v d) (q : Q (.bl (isIntM d)) H) : rIsiG K [v, .ty "int"] H Q := g_isi h.ty (by cases h <;> (simp only [tyM, isIntM]; decide +kernel)) q
theorem g_isiBool (h : Gq H v d) (q : Q (.bl (isBoolM d)) H) : rIsiG K [v, .ty "bool"] H Q := g_isi h.ty (by cases h <;> (simp only [tyM, isBoolM]; decide +kernel)) q
end
/-! ### what is asked of names, numbers, rows -/
def nameM : PyData → Bool
  | .str s => decide (isName s)
  | _ => false
def wholeM : PyData → Bool
  | .int _ => true
  | _ => false
def smallM : PyData → Bool
  | .int n => decide (n.natAbs < 10 ^ 60)
  | _ => false
def rowM : PyData → Bool
  | .tuple [a, _] => nameM a
  | _ => false
def rowsM : PyData → Bool
  | .tuple ds => decide (1 ≤ ds.length) && (decide (ds.length ≤ 4) && ds.all rowM)
  | _ => false
def spIsNameX : Sp := fun vs H Q _ => ∃ (v : V) (d : PyData), vs = [v] ∧ Gq H v d ∧ ∀ H', Same H H' → Q (.bl (nameM d)) H'
theorem pure_isnameX {K : PySem.W.Frag} {w : World} : PureOk 1 spIsNameX (t_is_name K w) 2 := by
  refine ⟨fun vs H Q E ⟨_, _, e, _⟩ => by rw [e]; rfl, ?_⟩
  rintro vs H Q E ⟨v, d, rfl, t, q⟩
  by_cases hs : isStrM d = true
  · cases t with
    | str s hl => exact pure_isnameG.run [.str s] H Q E ⟨s, rfl, hl, q⟩
    | _ => cases hs
  · have hs' : isStrM d = false := by simpa using hs
    show t_is_name K w _ [some v, none] H
    unfold t_is_name
    walk_at "gg"
    refine g_isiStr t ?_
    walk_at "gg"
    refine g_T (by rw [hs']; rfl) ?_
    walk_at "gg"
    have := q H (.refl _)
    cases d <;> first | exact this | cases hs'
def spIsWholeX : Sp := fun vs H Q _ => ∃ (v : V) (d : PyData), vs = [v] ∧ Gq H v d ∧ ∀ H', Same H H' → Q (.bl (wholeM d)) H'
theorem pure_iswholeX {K : PySem.W.Frag} {w : World} : PureOk 1 spIsWholeX (t_is_whole K w) 1 := by
  refine ⟨fun vs H Q E ⟨_, _, e, _⟩ => by rw [e]; rfl, ?_⟩
  rintro vs H Q E ⟨v, d, rfl, t, q⟩
  show t_is_whole K w _ [some v] H
  unfold t_is_whole
  walk_at "gg"
  refine g_isiInt t ?_
  have h := q H (.refl _)
  walk_at "gg"
  refine g_ite (fun hi => ?_) (fun hi => ?_)
  · walk_at "gg"
    refine g_isiBool t ?_
    walk_at "gg"
    cases d <;> first | exact h | cases hi
  · cases d <;> first | exact h | cases hi
def spIsSmallX : Sp := fun vs H Q _ => ∃ (n : Int), vs = [.int n] ∧ Q (.bl (decide (n.natAbs < 10 ^ 60))) H
theorem pure_issmallX {K : PySem.W.Frag} {w : World} : PureOk 1 spIsSmallX (t_is_small K w) 1 := by
  refine ⟨fun vs H Q E ⟨_, e, _⟩ => by rw [e]; rfl, ?_⟩
  rintro vs H Q E ⟨n, rfl, q⟩
  show t_is_small K w _ [some (.int n)] H
  unfold t_is_small
  walk_at "gg"
  refine g_powI ⟨by decide, by decide, by decide⟩ ?_
  walk_at "gg"
  have e : decide ((n.natAbs : Int) < 10 ^ Int.toNat 60) = decide (n.natAbs < 10 ^ 60) := by
    have : (10 : Int) ^ Int.toNat 60 = ((10 ^ 60 : Nat) : Int) := by rfl
    rw [this]
    exact decide_eq_decide.mpr Int.ofNat_lt
  rw [e]
  exact q
def spIsRowX : Sp := fun vs H Q _ => ∃ (v : V) (d : PyData), vs = [v] ∧ Gq H v d ∧ ∀ H', Same H H' → Q (.bl (rowM d)) H'
theorem pure_isrowX {K : PySem.W.Frag} {w : World} : PureOk 1 spIsRowX (t_is_row K w spIsNameX) 1 := by
  refine ⟨fun vs H Q E ⟨_, _, e, _⟩ => by rw [e]; rfl, ?_⟩
  rintro vs H Q E ⟨v, d, rfl, t, q⟩
  show t_is_row K w _ _ [some v] H
  unfold t_is_row
  walk_at "gg"
  refine g_isiTup t ?_
  walk_at "gg"
  refine g_ite (fun hi => ?_) (fun hi => ?_)
  · cases d with
    | tuple ds =>
      obtain ⟨a, xs, rfl, ea, ts⟩ := t.tup_inv
      walk_at "gg"
      have hl := ts.length
      refine g_ite (fun h2 => ?_) (fun h2 => ?_)
      · have h2' : xs.length = 2 := by have := of_decide_eq_true h2; omega
        match ds, hl, ts with
        | [d1, d2], _, ts =>
          obtain ⟨x, us, rfl, tx, ts⟩ := ts.cons_inv
          walk_at "gg"
          exact ⟨x, d1, rfl, tx, q⟩
        | [], hl, _ => rw [h2'] at hl; cases hl
        | [_], hl, _ => rw [h2'] at hl; cases hl
        | _ :: _ :: _ :: _, hl, _ => rw [h2'] at hl; simp at hl
      · have h2' : xs.length ≠ 2 := by intro e; have := of_decide_eq_false h2; omega
        have := q H (.refl _)
        rw [show decide ((xs.length : Int) = 2) = false from h2]
        match ds, hl, this with
        | [], _, h => exact h
        | [_], _, h => exact h
        | [_, _], hl, _ => exact absurd hl h2'
        | _ :: _ :: _ :: _, _, h => exact h
    | _ => cases hi
  · have := q H (.refl _)
    cases d <;> first | exact this | cases hi
/-- a test of each item of a tuple -/
theorem lc_testT {K : PySem.W.Frag} {g : TG} {te : TE} {vs : List Nat} {σ : L2.St} {H1 : Hp} {a : Addr} {xs : List V} {ds : List PyData} {f : PyData → Bool} {Qd : Addr → Hp → Prop} (ea : H1 a = some (.tup xs)) (tds : Gqs H1 xs ds) (hl : xs.length ≤ 100000)
    (hs : ∀ (x : V) (d : PyData) H' (Nx : V → Hp → Prop), Gq H' x d → (∀ H4, Same H' H4 → Nx (.bl (f d)) H4) → g x (wipe σ vs) H' fun σ2 H2 => wipe σ2 vs = wipe σ vs ∧ te σ2 H2 Nx)
    (hd : ∀ D H', Fr H1 D → H' D = some (.lst ((ds.map f).map V.bl)) → Same H1 H' → Qd D H') : LcR (Itt K a) g tYes te vs σ H1 Qd := by
  refine lc_mapT ea hl (fun i y H' => ∃ d, ds[i]? = some d ∧ y = .bl (f d)) (fun i y H H' k h => h) ?_ ?_
  · intro i x H' Nx hx s hN
    obtain ⟨d, hdd, tx⟩ := tds.get hx
    exact hs x d H' Nx (tx.mono (Same.tl s)) fun H4 s4 => hN _ H4 s4 ⟨d, hdd, rfl⟩
  · intro D ys H' nD eD hys hF s
    have hlen := tds.length
    have : ys = (ds.map f).map V.bl := by
      refine List.ext_getElem? fun i => ?_
      cases e : ys[i]? with
      | none =>
        rw [List.getElem?_eq_none_iff] at e
        rw [List.getElem?_eq_none (by rw [List.length_map, List.length_map]; omega)]
      | some y =>
        obtain ⟨d, hq, rfl⟩ := hF i y e
        rw [List.getElem?_map, List.getElem?_map, hq]
        rfl
    subst this
    exact hd D H' nD eD s
theorem all_mapD {ds : List PyData} {f : PyData → Bool} : (ds.map f).all id = ds.all f := by rw [List.all_map]; rfl
def spAreRowsX : Sp := fun vs H Q _ => ∃ (v : V) (d : PyData), vs = [v] ∧ Gq H v d ∧ ∀ H', Same H H' → Q (.bl (rowsM d)) H'
theorem pure_arerowsX {K : PySem.W.Frag} {w : World} : PureOk 1 spAreRowsX (t_are_rows K w spIsRowX) 2 := by
  refine ⟨fun vs H Q E ⟨_, _, e, _⟩ => by rw [e]; rfl, ?_⟩
  rintro vs H Q E ⟨v, d, rfl, t, q⟩
  show t_are_rows K w _ _ [some v, none] H
  unfold t_are_rows
  walk_at "gg"
  refine g_isiTup t ?_
  walk_at "gg"
  refine g_ite (fun hi => ?_) (fun hi => ?_)
  · cases d with
    | tuple ds =>
      obtain ⟨a, xs, rfl, ea, ts⟩ := t.tup_inv
      have hl := ts.length
      walk_at "gg"
      refine g_chain ?_
      walk_at "gg"
      by_cases h1 : 1 ≤ ds.length
      · refine g_T (decide_eq_true (by omega)) ?_
        walk_at "gg"
        by_cases h2 : ds.length ≤ 4
        · refine g_T (decide_eq_true (by omega)) ?_
          walk_at "gg"
          refine g_seqT ?_
          walk_at "gg"
          refine lc_testT (f := rowM) ea ts (by omega) ?_ ?_
          · intro x d H' Nx tx hN
            walk_at "gg"
            refine ⟨rfl, ?_⟩
            walk_at "gg"
            exact ⟨x, d, rfl, tx, hN⟩
          · intro D H' nD eD s
            walk_at "gg"
            refine ⟨D, _, rfl, SqL.of eD, ?_⟩
            rw [all_mapD]
            have this : Q (.bl (decide (1 ≤ ds.length) && (decide (ds.length ≤ 4) && ds.all rowM))) H' := q H' s
            rw [decide_eq_true h1, decide_eq_true h2, Bool.true_and, Bool.true_and] at this
            exact this
        · refine g_F (decide_eq_false (by omega)) ?_
          have this : Q (.bl (decide (1 ≤ ds.length) && (decide (ds.length ≤ 4) && ds.all rowM))) H := q H (.refl _)
          rw [decide_eq_true h1, decide_eq_false h2, Bool.true_and, Bool.false_and] at this
          rw [decide_eq_false (by omega)]
          exact this
      · refine g_F (decide_eq_false (by omega)) ?_
        have this : Q (.bl (decide (1 ≤ ds.length) && (decide (ds.length ≤ 4) && ds.all rowM))) H := q H (.refl _)
        rw [decide_eq_false h1, Bool.false_and] at this
        walk_at "gg"
        exact this
    | _ => cases hi
  · have := q H (.refl _)
    cases d <;> first | exact this | cases hi

/-! ### the parts of anything -/
theorem g_cutH {A : Prop} (C : Hp → Prop) {B : Hp → Prop} (f : (∀ H', C H' → B H') → A) (b : ∀ H', C H' → B H') : A := f b
def argsM (s : Str) : Option Nat := match (PARTSkvs.find? fun q => decide (q.1 = s)).map (·.2) with
  | some (V.int n) => some n.toNat
  | _ => none
theorem args_find (s : Str) : ((PARTSkvs.find? fun q => decide (q.1 = s)).isSome = (argsM s).isSome) ∧ ∀ n, argsM s = some n → (PARTSkvs.find? fun q => decide (q.1 = s)).map (·.2) = some (.int (n : Nat)) ∧ n ≤ 3 ∧ 1 ≤ n := by
  unfold argsM
  cases e : PARTSkvs.find? fun q => decide (q.1 = s) with
  | none => exact ⟨rfl, fun n h => by cases h⟩
  | some q =>
    have hm := List.mem_of_find?_eq_some e
    have key : ∀ q ∈ PARTSkvs, q.2 = .int 1 ∨ q.2 = .int 2 ∨ q.2 = .int 3 := by
      intro q hq
      simp only [PARTSkvs, List.mem_cons, List.not_mem_nil, or_false] at hq
      rcases hq with rfl | rfl | rfl | rfl | rfl | rfl | rfl | rfl | rfl <;> simp
    obtain ⟨k, v⟩ := q
    rcases key _ hm with h | h | h <;> (dsimp only at h; subst h; exact ⟨rfl, fun n h => by cases h; exact ⟨rfl, by decide, by decide⟩⟩)
def sndM : PyData → PyData
  | .tuple (_ :: b :: _) => b
  | d => d
def tupM : PyData → List PyData
  | .tuple ds => ds
  | _ => []
def kidsM : PyData → Option (List PyData)
  | .tuple (.str s :: d :: r) =>
    if s = "number" ∧ r.length = 0 ∧ smallM d = true then some []
    else if (s = "name" ∨ s = "fun") ∧ r.length = 0 ∧ nameM d = true then some []
    else if argsM s = some (r.length + 1) then some (d :: r)
    else if s = "let" ∧ r.length = 1 ∧ rowsM d = true then some ((tupM d).map sndM ++ r)
    else none
  | _ => none
theorem kidsM_len {d : PyData} {ks : List PyData} (h : kidsM d = some ks) : ks.length ≤ 5 := by
  unfold kidsM at h
  split at h
  · rename_i s d r
    split at h
    · cases h; exact Nat.zero_le _
    · split at h
      · cases h; exact Nat.zero_le _
      · split at h
        · rename_i h3
          cases h
          have := ((args_find s).2 _ h3).2.1
          simp only [List.length_cons]; omega
        · split at h
          · rename_i h4
            cases h
            obtain ⟨_, h5, h6⟩ := h4
            cases d with
            | tuple ds =>
              have h6' : (decide (1 ≤ ds.length) && (decide (ds.length ≤ 4) && ds.all rowM)) = true := h6
              simp only [Bool.and_eq_true, decide_eq_true_iff] at h6'
              rw [List.length_append, List.length_map]
              show ds.length + _ ≤ 5
              omega
            | _ => cases h6
          · cases h
  · cases h
section
variable {K : PySem.W.Frag} {H1 : Hp} {g : TG} {te : TE} {vs : List Nat} {σ : L2.St} {a : Addr} {xs : List V} {Qd : Addr → Hp → Prop} {F : Nat → V → Hp → Prop}
theorem lc_map_tl {J : It} (hJ1 : ∀ i H', i < xs.length → Same H1 H' → J.go i H') (hJ2 : ∀ H', Same H1 H' → J.stop xs.length H') (hJ3 : ∀ i H' x H2, Same H1 H' → J.yld i H' x H2 → H2 = H' ∧ xs[i]? = some x)
    (hl : xs.length ≤ 100000) (F : Nat → V → Hp → Prop) (hF : ∀ i y H H', Tl H H' → F i y H → F i y H')
    (hs : ∀ (i : Nat) x H' (Nx : V → Hp → Prop), xs[i]? = some x → Same H1 H' → (∀ y H4, Same H' H4 → F i y H4 → Nx y H4) → g x (wipe σ vs) H' fun σ2 H2 => wipe σ2 vs = wipe σ vs ∧ te σ2 H2 Nx)
    (hd : ∀ D (ys : List V) H', Fr H1 D → H' D = some (.lst ys) → ys.length = xs.length → (∀ (i : Nat) y, ys[i]? = some y → F i y H') → Same H1 H' → Qd D H') : LcR J g tYes te vs σ H1 Qd := by
  intro D hD
  refine lc_any xs.length (fun i acc H' => acc.length = i ∧ (∀ (j : Nat) y, acc[j]? = some y → F j y H') ∧ Same H1 H') hD (fun H' _ s => ⟨rfl, by simp, s⟩) (fun i acc H' hi ⟨_, _, s⟩ => hJ1 i H' hi s) (fun acc H' ⟨_, _, s⟩ => hJ2 H' s) ?_ ?_
  · rintro i x acc H2 H' hi hla ⟨ha, hf, s2⟩ hd2 hy
    obtain ⟨rfl, hx⟩ := hJ3 i _ _ _ s2 hy
    refine hs i x _ _ hx s2 fun y H4 s4 f4 => ?_
    refine lc_step (s4 _ _ hd2) hla (by show _ < 16777216; omega) fun H5 e5 c5 => ?_
    have k5 : Tl H4 H5 := c5.tl (s4 _ _ hd2) e5
    refine ⟨by rw [List.length_append, ha]; rfl, fun j z hz => ?_, Same.chg (s2.trans s4) hD c5⟩
    by_cases hj : j < acc.length
    · rw [List.getElem?_append_left hj] at hz
      exact hF _ _ _ _ ((Same.tl s4).trans k5) (hf j z hz)
    · have hj2 : j < (acc ++ [y]).length := (List.getElem?_eq_some_iff.mp hz).1
      rw [List.length_append, List.length_singleton] at hj2
      have : j = acc.length := by omega
      subst this
      rw [List.getElem?_append_right (Nat.le_refl _), Nat.sub_self] at hz
      cases hz
      rw [ha]
      exact hF _ _ _ _ k5 f4
  · rintro acc H' hd2 ⟨ha, hf, s⟩
    exact hd D acc H' hD hd2 ha hf s
/-- of each item another thing -/
theorem lc_gqT {ds : List PyData} (ea : H1 a = some (.tup xs)) (hl : xs.length ≤ 100000) (tds : Gqs H1 xs ds) (f : PyData → PyData)
    (hs : ∀ (x : V) (d : PyData) H' (Nx : V → Hp → Prop), d ∈ ds → Gq H' x d → (∀ y H4, Same H' H4 → Gq H4 y (f d) → Nx y H4) → g x (wipe σ vs) H' fun σ2 H2 => wipe σ2 vs = wipe σ vs ∧ te σ2 H2 Nx)
    (hd : ∀ D (ys : List V) H', Fr H1 D → H' D = some (.lst ys) → Gqs H' ys (ds.map f) → Same H1 H' → Qd D H') : LcR (Itt K a) g tYes te vs σ H1 Qd := by
  refine lc_map_tl (xs := xs) (fun i H' hi s => ⟨_, _, .of (s _ _ ea), List.getElem?_eq_getElem hi⟩) (fun H' s => ⟨_, .of (s _ _ ea), Nat.le_refl _⟩) (fun i H' x H2 s ⟨e, hx⟩ => ⟨e, hx _ (.of (s _ _ ea))⟩) hl
    (fun i y H' => ∃ d, ds[i]? = some d ∧ Gq H' y (f d)) (fun i y H H' k ⟨d, h1, h2⟩ => ⟨d, h1, h2.mono k⟩) ?_ ?_
  · intro i x H' Nx hx s hN
    obtain ⟨d, hdd, tx⟩ := tds.get hx
    exact hs x d H' Nx (List.mem_of_getElem? hdd) (tx.mono (Same.tl s)) fun y H4 s4 ty => hN y H4 s4 ⟨d, hdd, ty⟩
  · intro D ys H' nD eD hys hF s
    refine hd D ys H' nD eD (Gqs.of_get (by rw [List.length_map, hys, tds.length]) fun i y hy => ?_) s
    obtain ⟨d, h1, h2⟩ := hF i y hy
    exact ⟨_, by rw [List.getElem?_map, h1]; rfl, h2⟩
theorem lc_gqL {ds : List PyData} (ea : H1 a = some (.lst xs)) (hl : xs.length ≤ 100000) (tds : Gqs H1 xs ds) (f : PyData → PyData)
    (hs : ∀ (x : V) (d : PyData) H' (Nx : V → Hp → Prop), d ∈ ds → Gq H' x d → (∀ y H4, Same H' H4 → Gq H4 y (f d) → Nx y H4) → g x (wipe σ vs) H' fun σ2 H2 => wipe σ2 vs = wipe σ vs ∧ te σ2 H2 Nx)
    (hd : ∀ D (ys : List V) H', Fr H1 D → H' D = some (.lst ys) → Gqs H' ys (ds.map f) → Same H1 H' → Qd D H') : LcR (Itl K a) g tYes te vs σ H1 Qd := by
  refine lc_map_tl (xs := xs) (fun i H' hi s => ⟨_, _, .of (s _ _ ea), List.getElem?_eq_getElem hi⟩) (fun H' s => ⟨_, .of (s _ _ ea), Nat.le_refl _⟩) (fun i H' x H2 s ⟨e, hx⟩ => ⟨e, hx _ (.of (s _ _ ea))⟩) hl
    (fun i y H' => ∃ d, ds[i]? = some d ∧ Gq H' y (f d)) (fun i y H H' k ⟨d, h1, h2⟩ => ⟨d, h1, h2.mono k⟩) ?_ ?_
  · intro i x H' Nx hx s hN
    obtain ⟨d, hdd, tx⟩ := tds.get hx
    exact hs x d H' Nx (List.mem_of_getElem? hdd) (tx.mono (Same.tl s)) fun y H4 s4 ty => hN y H4 s4 ⟨d, hdd, ty⟩
  · intro D ys H' nD eD hys hF s
    refine hd D ys H' nD eD (Gqs.of_get (by rw [List.length_map, hys, tds.length]) fun i y hy => ?_) s
    obtain ⟨d, h1, h2⟩ := hF i y hy
    exact ⟨_, by rw [List.getElem?_map, h1]; rfl, h2⟩
end
theorem inV_two (s a b : Str) : inV (.str s) [.str a, .str b] = decide (s = a ∨ s = b) := by
  unfold inV
  simp only [List.any_cons, List.any_nil, L2.eqV, Bool.or_false]
  rw [Bool.eq_iff_iff]
  simp only [Bool.or_eq_true, beq_iff_eq, decide_eq_true_iff]
  constructor
  · rintro (h | h)
    · exact .inl h.symm
    · exact .inr h.symm
  · rintro (h | h)
    · exact .inl h.symm
    · exact .inr h.symm
def spPartsOfX : Sp := fun vs H Q _ => ∃ (v : V) (d : PyData), vs = [v] ∧ Gq H v d ∧ (kidsM d = none → ∀ H', Same H H' → Q .non H') ∧
  ∀ ks, kidsM d = some ks → ∀ (l : Addr) (us : List V) (H' : Hp), H l = none → H' l = some (.lst us) → Gqs H' us ks → Same H H' → Q (.ref l) H'
theorem pure_partsofX {K : PySem.W.Frag} {w : World} (T : KTab K w (He.ga K "PARTS") PARTSkvs) : PureOk 1 spPartsOfX (t_parts_of K w spIsWholeX spIsSmallX spIsNameX spAreRowsX) 2 := by
  refine ⟨fun vs H Q E ⟨_, _, e, _⟩ => by rw [e]; rfl, ?_⟩
  rintro vs H Q E ⟨v, d, rfl, t, qn, qs⟩
  show t_parts_of K w _ _ _ _ _ [some v, none] H
  unfold t_parts_of
  walk_at "gg"
  refine g_isiTup t ?_
  walk_at "gg"
  cases d with
  | tuple ds =>
    refine g_F rfl ?_
    obtain ⟨a, xs, rfl, ea, ts⟩ := t.tup_inv
    have hl := ts.length
    walk_at "gg"
    match ds, ts, hl, qn, qs with
    | [], ts, hl, qn, qs =>
      refine g_T (decide_eq_true (by rw [hl]; show (0 : Int) < 2; decide)) ?_
      walk_at "gg"
      exact qn rfl _ (.refl _)
    | [d0], ts, hl, qn, qs =>
      refine g_T (decide_eq_true (by rw [hl]; show (1 : Int) < 2; decide)) ?_
      walk_at "gg"
      refine qn ?_ _ (.refl _)
      cases d0 <;> rfl
    | d0 :: d1 :: r, ts, hl, qn, qs =>
      refine g_F (decide_eq_false (by rw [hl]; simp only [List.length_cons]; omega)) ?_
      obtain ⟨x0, us0, rfl, t0, tsa⟩ := ts.cons_inv
      obtain ⟨x1, us, rfl, t1, tsb⟩ := tsa.cons_inv
      clear tsa ts
      have hlr := tsb.length
      walk_at "gg"
      refine g_isiStr t0 ?_
      walk_at "gg"
      cases d0 with
      | str s =>
        obtain ⟨rfl, hsl⟩ := t0.str_inv
        have hk : kidsM (.tuple (.str s :: d1 :: r)) = (if s = "number" ∧ r.length = 0 ∧ smallM d1 = true then some []
          else if (s = "name" ∨ s = "fun") ∧ r.length = 0 ∧ nameM d1 = true then some []
          else if argsM s = some (r.length + 1) then some (d1 :: r)
          else if s = "let" ∧ r.length = 1 ∧ rowsM d1 = true then some ((tupM d1).map sndM ++ r)
          else none) := rfl
        rw [hk] at qn qs
        have hlen : ((V.str s :: x1 :: us).length : Int) = r.length + 2 := by simp only [List.length_cons, hlr]; omega
        clear hk hl t
        walk_at "gg"
        refine g_cutH (fun H' => Same H H' ∧ ¬ (s = "number" ∧ r.length = 0 ∧ smallM d1 = true)) (B := ?B1) (fun rest => ?f1) ?b1
        case f1 =>
          by_cases h1 : s = "number"
          · refine g_T (decide_eq_true h1) ?_
            walk_at "gg"
            by_cases h2 : r.length = 0
            · refine g_T (decide_eq_true (by rw [hlen, h2]; rfl)) ?_
              walk_at "gg"
              refine ⟨x1, d1, rfl, t1, fun H1 s1 => ?_⟩
              have ea1 := s1 _ _ ea
              walk_at "gg"
              by_cases h3 : wholeM d1 = true
              · refine g_T h3 ?_
                obtain ⟨n, hx, hd⟩ : ∃ n, x1 = V.int n ∧ d1 = .int n := by
                  cases t1 with
                  | int n => exact ⟨n, rfl, rfl⟩
                  | _ => cases h3
                walk_at "gg"
                refine ⟨n, by rw [hx]; rfl, ?_⟩
                by_cases h4 : n.natAbs < 10 ^ 60
                · rw [decide_eq_true h4]
                  walk_at "gg"
                  rename_i l H2 n2 e2 s2
                  exact qs [] (if_pos ⟨h1, h2, by rw [hd]; exact decide_eq_true h4⟩) l [] H2 (s1.free n2) e2 .nil (s1.trans s2)
                · rw [decide_eq_false h4]
                  refine g_trubl ?_
                  refine g_F rfl ?_
                  exact rest H1 ⟨s1, fun hh => h4 (by rw [hd] at hh; exact of_decide_eq_true hh.2.2)⟩
              · refine g_F (by simpa using h3) ?_
                refine g_F rfl ?_
                exact rest H1 ⟨s1, fun hh => h3 (by cases d1 <;> first | rfl | cases hh.2.2)⟩
            · refine g_F (decide_eq_false (by rw [hlen]; omega)) ?_
              refine g_F rfl ?_
              exact rest H ⟨.refl _, fun hh => h2 hh.2.1⟩
          · refine g_F (decide_eq_false h1) ?_
            refine g_F rfl ?_
            exact rest H ⟨.refl _, fun hh => h1 hh.1⟩
        rintro H1 ⟨s1, c1⟩
        rw [if_neg c1] at qn qs
        have ea1 := s1 _ _ ea
        have t11 := t1.mono (Same.tl s1)
        have ts1 := tsb.mono (Same.tl s1)
        clear ea t1 tsb
        walk_at "gg"
        rename_i tp H2 n2 e2 s2
        refine .inl ⟨tp, _, rfl, .inr (.of e2), rfl, rfl, ?_⟩
        rw [inV_two]
        walk_at "gg"
        have s02 := s1.trans s2
        have ea2 := s2 _ _ ea1
        have t12 := t11.mono (Same.tl s2)
        have ts2 := ts1.mono (Same.tl s2)
        clear ea1 t11 ts1 n2 e2
        refine g_cutH (fun H' => Same H H' ∧ Same H2 H' ∧ ¬ ((s = "name" ∨ s = "fun") ∧ r.length = 0 ∧ nameM d1 = true)) (B := ?B2) (fun rest => ?f2) ?b2
        case f2 =>
          by_cases h1 : s = "name" ∨ s = "fun"
          · refine g_T (decide_eq_true h1) ?_
            walk_at "gg"
            by_cases h2 : r.length = 0
            · refine g_T (decide_eq_true (by rw [hlen, h2]; rfl)) ?_
              walk_at "gg"
              refine ⟨x1, d1, rfl, t12, fun H3 s3 => ?_⟩
              walk_at "gg"
              by_cases h3 : nameM d1 = true
              · refine g_T h3 ?_
                walk_at "gg"
                rename_i l H4 n4 e4 s4
                exact qs [] (if_pos ⟨h1, h2, h3⟩) l [] H4 (s02.free (s3.free n4)) e4 .nil (s02.trans (s3.trans s4))
              · refine g_F (by simpa using h3) ?_
                exact rest H3 ⟨s02.trans s3, s3, fun hh => h3 hh.2.2⟩
            · refine g_F (decide_eq_false (by rw [hlen]; omega)) ?_
              refine g_F rfl ?_
              exact rest H2 ⟨s02, .refl _, fun hh => h2 hh.2.1⟩
          · refine g_F (decide_eq_false h1) ?_
            refine g_F rfl ?_
            exact rest H2 ⟨s02, .refl _, fun hh => h1 hh.1⟩
        rintro H3 ⟨s03, s23, c2⟩
        rw [if_neg c2] at qn qs
        have ea3 := s23 _ _ ea2
        have t13 := t12.mono (Same.tl s23)
        have ts3 := ts2.mono (Same.tl s23)
        clear ea2 t12 ts2 s1 s2 s02 s23
        walk_at "gg"
        refine g_inK T (args_find s).1 ?_
        walk_at "gg"
        refine g_cutH (fun H' => H' = H3 ∧ ¬ (argsM s = some (r.length + 1))) (B := ?B3) (fun rest => ?f3) ?b3
        case f3 =>
          cases hn : argsM s with
          | none =>
            refine g_F rfl ?_
            refine g_F rfl ?_
            exact rest H3 ⟨rfl, fun z => by rw [hn] at z; cases z⟩
          | some n =>
            obtain ⟨hv, hn3, hn1⟩ := (args_find s).2 n hn
            refine g_T rfl ?_
            walk_at "gg"
            refine g_ixKT T hv ?_
            walk_at "gg"
            by_cases h2 : n = r.length + 1
            · refine g_T (decide_eq_true (by rw [hlen, h2]; omega)) ?_
              walk_at "gg"
              refine g_slT (.of ea3) (not_whole (by simp)) fun p2 H4 n4 e4 s4 => ?_
              rw [cut_tail] at e4
              refine g_listT (.of e4) fun l H5 nl el s5 => ?_
              have s45 := s4.trans s5
              refine qs (d1 :: r) (if_pos (by rw [hn, h2])) l _ H5 (s03.free (s4.free nl)) el (.cons (t13.mono (Same.tl s45)) (ts3.mono (Same.tl s45))) (s03.trans s45)
            · refine g_F (decide_eq_false (by rw [hlen]; omega)) ?_
              exact rest H3 ⟨rfl, fun z => by rw [hn] at z; cases z; exact h2 rfl⟩
        rintro H3' ⟨rfl, c3⟩
        rw [if_neg c3] at qn qs
        walk_at "gg"
        by_cases h1 : s = "let"
        · refine g_T (decide_eq_true h1) ?_
          walk_at "gg"
          by_cases h2 : r.length = 1
          · refine g_T (decide_eq_true (by rw [hlen, h2]; rfl)) ?_
            walk_at "gg"
            obtain ⟨d2, rfl⟩ : ∃ d2, r = [d2] := by
              match r, h2 with
              | [d2], _ => exact ⟨d2, rfl⟩
            obtain ⟨x2, us, rfl, t2, ts4⟩ := ts3.cons_inv
            rw [ts4.nil_inv] at ea3
            refine ⟨x1, d1, rfl, t13, fun H4 s4 => ?_⟩
            have ea4 := s4 _ _ ea3
            have t14 := t13.mono (Same.tl s4)
            have t24 := t2.mono (Same.tl s4)
            have s04 := s03.trans s4
            clear ea3 t13 t2 ts3 s03 s4
            walk_at "gg"
            by_cases h3 : rowsM d1 = true
            · refine g_T h3 ?_
              have qs' := qs _ (if_pos ⟨h1, h2, h3⟩)
              unfold rowsM at h3
              split at h3
              · rename_i rs
                simp only [Bool.and_eq_true, decide_eq_true_iff, List.all_eq_true] at h3
                obtain ⟨h31, h32, h33⟩ := h3
                obtain ⟨ra, rxs, rfl, er, tr⟩ := t14.tup_inv
                have hrl := tr.length
                walk_at "gg"
                refine g_seqT ?_
                walk_at "gg"
                refine lc_gqT er (by omega) tr sndM ?_ ?_
                · intro x d H' Nx hdm tx hN
                  have hrow := h33 d hdm
                  unfold rowM at hrow
                  split at hrow
                  · rename_i e1 e2
                    obtain ⟨ra2, ys, rfl, er2, ty⟩ := tx.tup_inv
                    obtain ⟨y1, ys, rfl, ty1, ty⟩ := ty.cons_inv
                    obtain ⟨y2, ys, rfl, ty2, ty⟩ := ty.cons_inv
                    walk_at "gg"
                    refine ⟨rfl, ?_⟩
                    walk_at "gg"
                    exact hN y2 _ (.refl _) ty2
                  · cases hrow
                · intro D ys H5 nD eD tys s5
                  have hyl := tys.length
                  rw [List.length_map] at hyl
                  walk_at "gg"
                  rename_i l6 H6 n6 e6 s6 l7 H7 n7 e7 s7
                  have s67 := s6.trans s7
                  exact qs' l7 _ H7 (s04.free (s5.free (s6.free n7))) e7 ((tys.mono (Same.tl s67)).append (.one (t24.mono (Same.tl (s5.trans s67))))) (s04.trans (s5.trans s67))
              · cases h3
            · refine g_F (by simpa using h3) ?_
              walk_at "gg"
              exact qn (if_neg fun hh => h3 hh.2.2) _ s04
          · refine g_F (decide_eq_false (by rw [hlen]; omega)) ?_
            walk_at "gg"
            exact qn (if_neg fun hh => h2 hh.2.1) _ s03
        · refine g_F (decide_eq_false h1) ?_
          walk_at "gg"
          exact qn (if_neg fun hh => h1 hh.1) _ s03
      | _ => exact qn rfl _ (.refl _)
  | _ => exact qn rfl _ (.refl _)

/-! ### bodies, functions, programs: of anything -/
def gpd (q : PyData × Nat) : PyData := .tuple [q.1, .int q.2]
/-- a pile of parts with their depths, the one that is next at first -/
def runB : Nat → Nat → List (PyData × Nat) → Bool
  | _, _, [] => true
  | 0, _, _ :: _ => false
  | f + 1, many, (d, deep) :: st => match kidsM d with
    | none => false
    | some ks => if deep > 12 ∨ many + 1 > 60 then false else runB f (many + 1) ((ks.map fun k => (k, deep + 1)).reverse ++ st)
def bodyM (d : PyData) : Bool := runB 61 0 [(d, 1)]
def spIsBodyX : Sp := fun vs H Q _ => ∃ (v : V) (d : PyData), vs = [v] ∧ Gq H v d ∧ ∀ H', Same H H' → Q (.bl (bodyM d)) H'
theorem pure_isbodyX {K : PySem.W.Frag} {w : World} : PureOk 1 spIsBodyX (t_is_body K w spPartsOfX) 7 := by
  refine ⟨fun vs H Q E ⟨_, _, e, _⟩ => by rw [e]; rfl, ?_⟩
  rintro vs H Q E ⟨v, d, rfl, t, q⟩
  show t_is_body K w _ _ [some v, none, none, none, none, none, none] H
  unfold t_is_body
  walk_at "gg"
  rename_i a1 H1 n1 e1 s1 pl H2 n2 e2 s2
  have npl : H pl = none := s1.free n2
  refine while_any (fun m σ H' => ∃ (x3 x4 x5 x6 : Option V) (many : Nat) (vs : List V) (st : List (PyData × Nat)), σ = [some v, some (.int many), some (.ref pl), x3, x4, x5, x6] ∧ H' pl = some (.lst vs) ∧ Gqs H' vs (st.reverse.map gpd) ∧
      many ≤ 60 ∧ vs.length ≤ 5 * many + 1 ∧ runB (61 - many) many st = bodyM d ∧ m = 61 - many ∧ Same H H') 61
    ⟨none, none, none, none, 0, [.ref a1], [(d, 1)], rfl, e2, .cons (.tup (s2 _ _ e1) (.cons (t.mono (Same.tl (s1.trans s2))) (.one (.int _)))) .nil, by omega, by simp, rfl, rfl, s1.trans s2⟩ ?_
  rintro m σ H3 ⟨x3, x4, x5, x6, many, vs, st, rfl, hp, tp, hm60, hvl, hrun, rfl, s3⟩
  walk_at "gg"
  rename_i l4 H4 n4 e4 s4
  have s04 := s3.trans s4
  have hp4 := s4 _ _ hp
  cases st with
  | nil =>
    have hvs : vs = [] := List.eq_nil_of_length_eq_zero (by rw [tp.length]; rfl)
    subst hvs
    refine g_F rfl ?_
    walk_at "gg"
    have e : bodyM d = true := by rw [← hrun]; cases 61 - many <;> rfl
    rw [← e]
    exact q _ s04
  | cons q1 st' =>
    obtain ⟨d1, k1⟩ := q1
    rw [List.reverse_cons, List.map_append] at tp
    obtain ⟨vs', v1, rfl, tp', t1⟩ := Gqs.snoc_inv tp
    have hvl' : vs'.length ≤ 5 * many := by rw [List.length_append, List.length_singleton] at hvl; omega
    refine g_T (by cases vs' <;> rfl) ?_
    refine g_turn ?_
    obtain ⟨a5, us, rfl, ea5, tu⟩ := Gq.tup_inv (ds := [d1, .int k1]) t1
    obtain ⟨u1, us, rfl, tu1, tu⟩ := tu.cons_inv
    obtain ⟨u2, us, rfl, tu2, tu⟩ := tu.cons_inv
    rw [tu.nil_inv] at ea5
    have hu2 : u2 = .int k1 := by cases tu2; rfl
    subst hu2
    have tp4' := tp'.mono (Same.tl s4)
    have tu14 := tu1.mono (Same.tl s4)
    have ea54 := s4 _ _ ea5
    clear tp tu1 ea5 hp s3 s4 e4 n4 t1 tp' tu tu2
    walk_at "gg"
    refine g_pop hp4 ?_
    walk_at "gg"
    rename_i H5 e5 c5
    have s05 : Same H H5 := Same.chg s04 npl c5
    have k45 : Tl H4 H5 := c5.tl hp4 e5
    have tp5' := tp4'.mono k45
    have tu15 := tu14.mono k45
    have ea55 := k45.tup _ _ ea54
    clear tp4' tu14 ea54 k45 hp4 c5 s04
    refine g_un2 ea55 ?_
    walk_at "gg"
    have hr2 : runB (61 - many) many ((d1, k1) :: st') = match kidsM d1 with
        | none => false
        | some ks => if k1 > 12 ∨ many + 1 > 60 then false else runB (60 - many) (many + 1) ((ks.map fun k => (k, k1 + 1)).reverse ++ st') := by
      have e : 61 - many = (60 - many) + 1 := by omega
      rw [e]; rfl
    rw [hr2] at hrun
    refine ⟨u1, d1, rfl, tu15, fun hno H7 s7 => ?_, fun ks hks l us H7 nl7 el7 tk7 s7 => ?_⟩
    · rw [hno] at hrun
      have hrun' : false = bodyM d := hrun
      walk_at "gg"
      refine .inl ⟨rfl, ?_⟩
      walk_at "gg"
      rw [hrun']
      exact q _ (s05.trans s7)
    rw [hks] at hrun
    dsimp only at hrun
    have hkl := kidsM_len hks
    have hul := tk7.length
    have e75 := s7 _ _ e5
    have tp7' := tp5'.mono (Same.tl s7)
    have s07 := s05.trans s7
    clear e5 tp5' tu15 ea55 s05 s7
    walk_at "gg"
    refine .inl ⟨rfl, ?_⟩
    walk_at "gg"
    by_cases h12 : k1 > 12
    · rw [if_pos (.inl h12)] at hrun
      refine g_T (decide_eq_true (by omega)) ?_
      walk_at "gg"
      rw [hrun]
      exact q _ s07
    refine g_F (decide_eq_false (by omega)) ?_
    walk_at "gg"
    by_cases h60 : many + 1 > 60
    · rw [if_pos (.inr h60)] at hrun
      refine g_T (decide_eq_true (by omega)) ?_
      walk_at "gg"
      rw [hrun]
      exact q _ s07
    refine g_F (decide_eq_false (by omega)) ?_
    rw [if_neg (fun h => h.elim h12 h60)] at hrun
    walk_at "gg"
    refine g_seqL ?_
    walk_at "gg"
    refine lc_gqL el7 (by omega) tk7 (fun k => gpd (k, k1 + 1)) ?_ ?_
    · intro x dx H' Nx hx tx hN
      walk_at "gg"
      refine ⟨rfl, ?_⟩
      walk_at "gg"
      rename_i a8 H8 n8 e8 s8
      exact hN _ _ s8 (.tup e8 (.cons (tx.mono (Same.tl s8)) (.one (.int _))))
    · intro D ys H8 nD eD tys s8
      have hyl := tys.length
      rw [List.length_map] at hyl
      have e85 := s8 _ _ e75
      walk_at "gg"
      refine g_extend e85 eD (by show _ ≤ 16777216; omega) ?_
      walk_at "gg"
      rename_i H9 e9 c9
      have k89 : Tl H8 H9 := c9.tl e85 e9
      refine ⟨61 - (many + 1), by omega, _, _, _, _, many + 1, _, (ks.map fun k => (k, k1 + 1)).reverse ++ st', rfl, e9, ?_, by omega, ?_, ?_, rfl, Same.chg (s07.trans s8) npl c9⟩
      · rw [List.reverse_append, List.reverse_reverse, List.map_append, List.map_map]
        exact Gqs.append ((tp7'.mono (Same.tl s8)).mono k89) (tys.mono k89)
      · rw [List.length_append]; omega
      · rw [show 61 - (many + 1) = 60 - many from by omega]; exact hrun
def functionM : PyData → Bool
  | .tuple [n, .tuple ths, b] => nameM n && (decide (ths.length ≤ 4) && (ths.all nameM && bodyM b))
  | _ => false
def spIsFunctionX : Sp := fun vs H Q _ => ∃ (v : V) (d : PyData), vs = [v] ∧ Gq H v d ∧ ∀ H', Same H H' → Q (.bl (functionM d)) H'
theorem pure_isfunctionX {K : PySem.W.Frag} {w : World} : PureOk 1 spIsFunctionX (t_is_function K w spIsNameX spIsBodyX) 2 := by
  refine ⟨fun vs H Q E ⟨_, _, e, _⟩ => by rw [e]; rfl, ?_⟩
  rintro vs H Q E ⟨v, d, rfl, t, q⟩
  show t_is_function K w _ _ _ [some v, none] H
  unfold t_is_function
  walk_at "gg"
  refine g_isiTup t ?_
  walk_at "gg"
  cases d with
  | tuple ds =>
    refine g_F rfl ?_
    obtain ⟨a, xs, rfl, ea, ts⟩ := t.tup_inv
    have hl := ts.length
    clear t
    walk_at "gg"
    match ds, ts, hl, q with
    | [d0, d1, d2], ts, hl, q =>
      refine g_F (by rw [decide_eq_true (by rw [hl]; rfl)]; rfl) ?_
      obtain ⟨x0, us0, rfl, t0, tsa⟩ := ts.cons_inv
      obtain ⟨x1, us1, rfl, t1, tsb⟩ := tsa.cons_inv
      obtain ⟨x2, us2, rfl, t2, tsc⟩ := tsb.cons_inv
      rw [tsc.nil_inv] at ea
      clear tsa tsb tsc ts
      walk_at "gg"
      refine ⟨x0, d0, rfl, t0, fun H1 s1 => ?_⟩
      have ea1 := s1 _ _ ea
      have t11 := t1.mono (Same.tl s1)
      have t21 := t2.mono (Same.tl s1)
      clear ea t0 t1 t2
      walk_at "gg"
      by_cases h0 : nameM d0 = true
      · refine g_F (by rw [h0]; rfl) ?_
        walk_at "gg"
        refine g_isiTup t11 ?_
        walk_at "gg"
        cases d1 with
        | tuple ths =>
          refine g_F rfl ?_
          obtain ⟨b, ys, rfl, eb, ty⟩ := t11.tup_inv
          have hyl := ty.length
          have hq : ∀ H', Same H H' → Q (.bl (decide (ths.length ≤ 4) && (ths.all nameM && bodyM d2))) H' := fun H' s' => by
            have := q H' s'
            rwa [show functionM (.tuple [d0, .tuple ths, d2]) = (nameM d0 && (decide (ths.length ≤ 4) && (ths.all nameM && bodyM d2))) from rfl, h0, Bool.true_and] at this
          walk_at "gg"
          by_cases h4 : ths.length ≤ 4
          · refine g_T (decide_eq_true (by omega)) ?_
            rw [decide_eq_true h4] at hq
            walk_at "gg"
            refine g_seqT ?_
            walk_at "gg"
            refine lc_testT (f := nameM) eb ty (by omega) ?_ ?_
            · intro x d H' Nx tx hN
              walk_at "gg"
              refine ⟨rfl, ?_⟩
              walk_at "gg"
              exact ⟨x, d, rfl, tx, hN⟩
            · intro D H' nD eD s
              walk_at "gg"
              refine ⟨D, _, rfl, SqL.of eD, ?_⟩
              rw [all_mapD]
              walk_at "gg"
              by_cases h5 : ths.all nameM = true
              · refine g_T h5 ?_
                rw [h5] at hq
                walk_at "gg"
                exact ⟨x2, d2, rfl, t21.mono (Same.tl s), fun H'' s2 => hq H'' (s1.trans (s.trans s2))⟩
              · have h5' : ths.all nameM = false := by simpa using h5
                refine g_F h5' ?_
                rw [h5'] at hq ⊢
                exact hq H' (s1.trans s)
          · refine g_F (decide_eq_false (by omega)) ?_
            rw [decide_eq_false h4] at hq
            rw [decide_eq_false (by omega)]
            exact hq H1 s1
        | _ =>
          refine g_T rfl ?_
          walk_at "gg"
          exact q H1 s1
      · have h0' : nameM d0 = false := by simpa using h0
        refine g_T (by rw [h0']; rfl) ?_
        walk_at "gg"
        have := q H1 s1
        cases d1 with
        | tuple ths =>
          rwa [show functionM (.tuple [d0, .tuple ths, d2]) = (nameM d0 && (decide (ths.length ≤ 4) && (ths.all nameM && bodyM d2))) from rfl, h0', Bool.false_and] at this
        | _ => exact this
    | [], ts, hl, q =>
      refine g_T (by rw [decide_eq_false (by rw [hl]; show ¬ ((0 : Int) = 3); decide)]; rfl) ?_
      walk_at "gg"
      exact q H (.refl _)
    | [_], ts, hl, q =>
      refine g_T (by rw [decide_eq_false (by rw [hl]; show ¬ ((1 : Int) = 3); decide)]; rfl) ?_
      walk_at "gg"
      exact q H (.refl _)
    | [_, d1], ts, hl, q =>
      refine g_T (by rw [decide_eq_false (by rw [hl]; show ¬ ((2 : Int) = 3); decide)]; rfl) ?_
      walk_at "gg"
      have := q H (.refl _)
      cases d1 <;> exact this
    | _ :: d1 :: _ :: _ :: _, ts, hl, q =>
      refine g_T (by rw [decide_eq_false (by rw [hl]; simp only [List.length_cons]; omega)]; rfl) ?_
      walk_at "gg"
      have := q H (.refl _)
      cases d1 <;> exact this
  | _ =>
    refine g_T rfl ?_
    walk_at "gg"
    exact q H (.refl _)
def builtM : PyData → Bool
  | .tuple [.tuple fs, b] => decide (fs.length ≤ 8) && (fs.all functionM && bodyM b)
  | _ => false
def spIsBuiltX : Sp := fun vs H Q _ => ∃ (v : V) (d : PyData), vs = [v] ∧ Gq H v d ∧ ∀ H', Same H H' → Q (.bl (builtM d)) H'
theorem pure_isbuiltX {K : PySem.W.Frag} {w : World} : PureOk 1 spIsBuiltX (t_is_built K w spIsFunctionX spIsBodyX) 2 := by
  refine ⟨fun vs H Q E ⟨_, _, e, _⟩ => by rw [e]; rfl, ?_⟩
  rintro vs H Q E ⟨v, d, rfl, t, q⟩
  show t_is_built K w _ _ _ [some v, none] H
  unfold t_is_built
  walk_at "gg"
  refine g_isiTup t ?_
  walk_at "gg"
  cases d with
  | tuple ds =>
    refine g_F rfl ?_
    obtain ⟨a, xs, rfl, ea, ts⟩ := t.tup_inv
    have hl := ts.length
    clear t
    walk_at "gg"
    match ds, ts, hl, q with
    | [d1, d2], ts, hl, q =>
      refine g_F (by rw [decide_eq_true (by rw [hl]; rfl)]; rfl) ?_
      obtain ⟨x1, us1, rfl, t1, tsb⟩ := ts.cons_inv
      obtain ⟨x2, us2, rfl, t2, tsc⟩ := tsb.cons_inv
      rw [tsc.nil_inv] at ea
      clear tsb tsc ts
      walk_at "gg"
      refine g_isiTup t1 ?_
      walk_at "gg"
      cases d1 with
      | tuple ths =>
        refine g_F rfl ?_
        obtain ⟨b, ys, rfl, eb, ty⟩ := t1.tup_inv
        have hyl := ty.length
        have hq : ∀ H', Same H H' → Q (.bl (decide (ths.length ≤ 8) && (ths.all functionM && bodyM d2))) H' := q
        walk_at "gg"
        by_cases h4 : ths.length ≤ 8
        · refine g_T (decide_eq_true (by omega)) ?_
          rw [decide_eq_true h4] at hq
          walk_at "gg"
          refine g_seqT ?_
          walk_at "gg"
          refine lc_testT (f := functionM) eb ty (by omega) ?_ ?_
          · intro x d H' Nx tx hN
            walk_at "gg"
            refine ⟨rfl, ?_⟩
            walk_at "gg"
            exact ⟨x, d, rfl, tx, hN⟩
          · intro D H' nD eD s
            walk_at "gg"
            refine ⟨D, _, rfl, SqL.of eD, ?_⟩
            rw [all_mapD]
            walk_at "gg"
            by_cases h5 : ths.all functionM = true
            · refine g_T h5 ?_
              rw [h5] at hq
              walk_at "gg"
              exact ⟨x2, d2, rfl, t2.mono (Same.tl s), fun H'' s2 => hq H'' (s.trans s2)⟩
            · have h5' : ths.all functionM = false := by simpa using h5
              refine g_F h5' ?_
              rw [h5'] at hq ⊢
              exact hq H' s
        · refine g_F (decide_eq_false (by omega)) ?_
          rw [decide_eq_false h4] at hq
          rw [decide_eq_false (by omega)]
          exact hq H (.refl _)
      | _ =>
        refine g_T rfl ?_
        walk_at "gg"
        exact q H (.refl _)
    | [], ts, hl, q =>
      refine g_T (by rw [decide_eq_false (by rw [hl]; show ¬ ((0 : Int) = 2); decide)]; rfl) ?_
      walk_at "gg"
      exact q H (.refl _)
    | [d1], ts, hl, q =>
      refine g_T (by rw [decide_eq_false (by rw [hl]; show ¬ ((1 : Int) = 2); decide)]; rfl) ?_
      walk_at "gg"
      have := q H (.refl _)
      cases d1 <;> exact this
    | d1 :: _ :: _ :: _, ts, hl, q =>
      refine g_T (by rw [decide_eq_false (by rw [hl]; simp only [List.length_cons]; omega)]; rfl) ?_
      walk_at "gg"
      have := q H (.refl _)
      cases d1 <;> exact this
  | _ =>
    refine g_T rfl ?_
    walk_at "gg"
    exact q H (.refl _)

/-! ### what is let by is a program's data -/
mutual
/-- a part of the right kinds: names, small numbers, one to four rows -/
def Part.shape : Part → Prop
  | .num n => n.natAbs < 10 ^ 60
  | .name x => isName x
  | .fn f => isName f
  | .one _ a => a.shape
  | .two _ a b => a.shape ∧ b.shape
  | .whn a b c => a.shape ∧ b.shape ∧ c.shape
  | .letp r a => r.names.length ≤ 4 ∧ r.names ≠ [] ∧ (∀ x ∈ r.names, isName x) ∧ r.shape ∧ a.shape
  | .shut _ => False
def Rows.shape : Rows → Prop
  | .nil => True
  | .cons _ a r => a.shape ∧ r.shape
end
mutual
def Part.uses : Part → List Str
  | .num _ => []
  | .name x => [x]
  | .fn f => [f]
  | .one _ a => a.uses
  | .two _ a b => a.uses ++ b.uses
  | .whn a b c => a.uses ++ (b.uses ++ c.uses)
  | .letp r a => r.uses ++ a.uses
  | .shut _ => []
def Rows.uses : Rows → List Str
  | .nil => []
  | .cons _ a r => a.uses ++ r.uses
end
mutual
theorem Part.shape.ok : ∀ {p : Part}, p.shape → ∀ {fs sc : List Str}, (∀ x ∈ p.uses, x ∈ fs ∧ x ∈ sc) → p.ok fs sc
  | .num n, h, _, _, _ => h
  | .name x, h, _, _, u => ⟨(u x (List.mem_singleton.mpr rfl)).2, h⟩
  | .fn x, h, _, _, u => ⟨(u x (List.mem_singleton.mpr rfl)).1, h⟩
  | .one _ a, h, _, _, u => Part.shape.ok (p := a) h u
  | .two _ a b, h, _, _, u => ⟨Part.shape.ok (p := a) h.1 fun x hx => u x (List.mem_append.mpr (.inl hx)), Part.shape.ok (p := b) h.2 fun x hx => u x (List.mem_append.mpr (.inr hx))⟩
  | .whn a b c, h, _, _, u => ⟨Part.shape.ok (p := a) h.1 fun x hx => u x (List.mem_append.mpr (.inl hx)), Part.shape.ok (p := b) h.2.1 fun x hx => u x (List.mem_append.mpr (.inr (List.mem_append.mpr (.inl hx)))), Part.shape.ok (p := c) h.2.2 fun x hx => u x (List.mem_append.mpr (.inr (List.mem_append.mpr (.inr hx))))⟩
  | .letp r a, h, _, _, u => ⟨h.1, h.2.1, h.2.2.1, Rows.shape.ok (r := r) h.2.2.2.1 fun x hx => ⟨(u x (List.mem_append.mpr (.inl hx))).1, List.mem_append.mpr (.inl (u x (List.mem_append.mpr (.inl hx))).2)⟩,
      Part.shape.ok (p := a) h.2.2.2.2 fun x hx => ⟨(u x (List.mem_append.mpr (.inr hx))).1, List.mem_append.mpr (.inl (u x (List.mem_append.mpr (.inr hx))).2)⟩⟩
  | .shut _, h, _, _, _ => h.elim
theorem Rows.shape.ok : ∀ {r : Rows}, r.shape → ∀ {fs sc : List Str}, (∀ x ∈ r.uses, x ∈ fs ∧ x ∈ sc) → r.ok fs sc
  | .nil, _, _, _, _ => trivial
  | .cons _ a r, h, _, _, u => ⟨Part.shape.ok (p := a) h.1 fun x hx => u x (List.mem_append.mpr (.inl hx)), Rows.shape.ok (r := r) h.2 fun x hx => u x (List.mem_append.mpr (.inr hx))⟩
end
mutual
theorem Part.ok.shape : ∀ {p : Part} {fs sc : List Str}, p.ok fs sc → p.shape
  | .num n, _, _, h => h
  | .name x, _, _, h => h.2
  | .fn x, _, _, h => h.2
  | .one _ a, _, _, h => Part.ok.shape (p := a) h
  | .two _ a b, _, _, h => ⟨Part.ok.shape (p := a) h.1, Part.ok.shape (p := b) h.2⟩
  | .whn a b c, _, _, h => ⟨Part.ok.shape (p := a) h.1, Part.ok.shape (p := b) h.2.1, Part.ok.shape (p := c) h.2.2⟩
  | .letp r a, _, _, h => ⟨h.1, h.2.1, h.2.2.1, Rows.ok.shape (r := r) h.2.2.2.1, Part.ok.shape (p := a) h.2.2.2.2⟩
  | .shut _, _, _, h => h.elim
theorem Rows.ok.shape : ∀ {r : Rows} {fs sc : List Str}, r.ok fs sc → r.shape
  | .nil, _, _, _ => trivial
  | .cons _ a r, _, _, h => ⟨Part.ok.shape (p := a) h.1, Rows.ok.shape (r := r) h.2⟩
end
structure Part.bd (p : Part) : Prop where
  shape : p.shape
  deep : p.deep ≤ 12
  size : p.size ≤ 60
theorem Part.bd.good {p : Part} (h : p.bd) : p.good := ⟨⟨p.uses, p.uses, h.shape.ok fun x hx => ⟨hx, hx⟩⟩, h.deep⟩
theorem Part.fine.bd {fs sc : List Str} {p : Part} (h : p.fine fs sc) : p.bd := ⟨Part.ok.shape h.ok, h.deep, h.size⟩
theorem Rows.shape_parts : ∀ {r : Rows}, (∀ p ∈ r.parts, p.shape) → r.shape
  | .nil, _ => trivial
  | .cons _ a r, h => ⟨h a List.mem_cons_self, Rows.shape_parts fun p hp => h p (List.mem_cons_of_mem _ hp)⟩
theorem Rows.parts_shape : ∀ {r : Rows}, r.shape → ∀ p ∈ r.parts, p.shape
  | .nil, _, p, hp => by cases hp
  | .cons _ a r, h, p, hp => by
    rcases List.mem_cons.mp hp with rfl | hp
    · exact h.1
    · exact Rows.parts_shape h.2 p hp
theorem Part.shape.kids {p : Part} (h : p.shape) : ∀ q ∈ p.kids, q.shape := by
  intro q hq
  cases p with
  | num n => cases hq
  | name x => cases hq
  | fn f => cases hq
  | one k a => rw [List.mem_singleton.mp hq]; exact h
  | two k a b =>
    simp only [Part.kids, List.mem_cons, List.not_mem_nil, or_false] at hq
    rcases hq with rfl | rfl
    · exact h.1
    · exact h.2
  | whn a b c =>
    simp only [Part.kids, List.mem_cons, List.not_mem_nil, or_false] at hq
    rcases hq with rfl | rfl | rfl
    · exact h.1
    · exact h.2.1
    · exact h.2.2
  | letp r a =>
    rcases List.mem_append.mp hq with hq | hq
    · exact Rows.parts_shape h.2.2.2.1 q hq
    · rw [List.mem_singleton.mp hq]; exact h.2.2.2.2
  | shut a => cases hq
theorem nameM_inv {d : PyData} (h : nameM d = true) : ∃ s, d = .str s ∧ isName s := by
  cases d with
  | str s => exact ⟨s, rfl, of_decide_eq_true h⟩
  | _ => cases h
theorem rowM_inv {d : PyData} (h : rowM d = true) : ∃ x e, d = .tuple [.str x, e] ∧ isName x := by
  unfold rowM at h
  split at h
  · rename_i a e
    obtain ⟨s, rfl, hs⟩ := nameM_inv h
    exact ⟨s, e, rfl, hs⟩
  · cases h
theorem rows_decode : ∀ {rows : List PyData}, (∀ d ∈ rows, rowM d = true) → ∀ {ps : List Part}, rows.map sndM = ps.map Part.data → ∃ r : Rows, r.datas = rows ∧ r.parts = ps ∧ (∀ x ∈ r.names, isName x) ∧ r.names.length = rows.length
  | [], _, [], _ => ⟨.nil, rfl, rfl, fun x hx => (List.not_mem_nil hx).elim, rfl⟩
  | [], _, _ :: _, e => by simp at e
  | _ :: _, _, [], e => by simp at e
  | d :: rows, h, p :: ps, e => by
    rw [List.map_cons, List.map_cons] at e
    obtain ⟨e1, e2⟩ := List.cons.inj e
    obtain ⟨r, h1, h2, h3, h4⟩ := rows_decode (fun d hd => h d (List.mem_cons_of_mem _ hd)) e2
    obtain ⟨x, u, rfl, hx⟩ := rowM_inv (h d List.mem_cons_self)
    have e1' : u = p.data := e1
    subst e1'
    refine ⟨.cons x p r, by show _ :: r.datas = _; rw [h1], by show p :: r.parts = _; rw [h2], fun y hy => ?_, by show r.names.length + 1 = rows.length + 1; rw [h4]⟩
    rcases List.mem_cons.mp hy with rfl | hy
    · exact hx
    · exact h3 y hy
theorem argsM_inv {s : Str} {n : Nat} (h : argsM s = some n) : (∃ k : K1, s = k.word ∧ n = 1) ∨ (∃ k : K2, s = k.word ∧ n = 2) ∨ (s = "when" ∧ n = 3) := by
  unfold argsM at h
  cases e : PARTSkvs.find? fun q => decide (q.1 = s) with
  | none => rw [e] at h; cases h
  | some q =>
    rw [e] at h
    have hm := List.mem_of_find?_eq_some e
    have hp := List.find?_some e
    have he : q.1 = s := of_decide_eq_true hp
    simp only [PARTSkvs, List.mem_cons, List.not_mem_nil, or_false] at hm
    rcases hm with rfl | rfl | rfl | rfl | rfl | rfl | rfl | rfl | rfl <;> (dsimp only at he; subst he; cases h)
    · exact .inr (.inl ⟨.give, rfl, rfl⟩)
    · exact .inr (.inl ⟨.plus, rfl, rfl⟩)
    · exact .inr (.inl ⟨.less, rfl, rfl⟩)
    · exact .inr (.inl ⟨.times, rfl, rfl⟩)
    · exact .inr (.inl ⟨.below, rfl, rfl⟩)
    · exact .inr (.inr ⟨rfl, rfl⟩)
    · exact .inr (.inl ⟨.pair, rfl, rfl⟩)
    · exact .inl ⟨.left, rfl, rfl⟩
    · exact .inl ⟨.right, rfl, rfl⟩
theorem argsM_1 (k : K1) : argsM k.word = some 1 := by cases k <;> decide +kernel
theorem argsM_2 (k : K2) : argsM k.word = some 2 := by cases k <;> decide +kernel
theorem argsM_3 : argsM "when" = some 3 := by decide +kernel
theorem kidsM_decode {d : PyData} {ks : List PyData} (h : kidsM d = some ks) {ps : List Part} (e : ks = ps.map Part.data) (hs : ∀ p ∈ ps, p.shape) : ∃ p : Part, p.data = d ∧ p.shape ∧ p.kids = ps := by
  subst e
  unfold kidsM at h
  split at h
  · rename_i s d r
    split at h
    · rename_i h1
      obtain ⟨rfl, h2, h3⟩ := h1
      have hr : r = [] := List.eq_nil_of_length_eq_zero h2
      subst hr
      have hps : ps = [] := by have := Option.some.inj h; simpa using this.symm
      subst hps
      cases d with
      | int n => exact ⟨.num n, rfl, of_decide_eq_true (p := n.natAbs < 10 ^ 60) h3, rfl⟩
      | _ => cases h3
    · split at h
      · rename_i h1
        obtain ⟨h1, h2, h3⟩ := h1
        have hr : r = [] := List.eq_nil_of_length_eq_zero h2
        subst hr
        have hps : ps = [] := by have := Option.some.inj h; simpa using this.symm
        subst hps
        obtain ⟨x, rfl, hx⟩ := nameM_inv h3
        rcases h1 with rfl | rfl
        · exact ⟨.name x, rfl, hx, rfl⟩
        · exact ⟨.fn x, rfl, hx, rfl⟩
      · split at h
        · rename_i h3
          have hd : d :: r = ps.map Part.data := Option.some.inj h
          have hl : r.length + 1 = ps.length := by have := congrArg List.length hd; simpa using this
          rcases argsM_inv h3 with ⟨k, rfl, hn⟩ | ⟨k, rfl, hn⟩ | ⟨rfl, hn⟩
          · match ps, hl, hd, hs with
            | [a], _, hd, hs =>
              obtain ⟨rfl, rfl⟩ := List.cons.inj hd
              exact ⟨.one k a, rfl, hs a List.mem_cons_self, rfl⟩
            | [], hl, _, _ => simp at hl
            | _ :: _ :: _, hl, _, _ => simp only [List.length_cons] at hl; omega
          · match ps, hl, hd, hs with
            | [a, b], _, hd, hs =>
              obtain ⟨rfl, rfl⟩ := List.cons.inj hd
              exact ⟨.two k a b, rfl, ⟨hs a (by simp), hs b (by simp)⟩, rfl⟩
            | [], hl, _, _ => simp at hl
            | [_], hl, _, _ => simp only [List.length_cons, List.length_nil] at hl; omega
            | _ :: _ :: _ :: _, hl, _, _ => simp only [List.length_cons] at hl; omega
          · match ps, hl, hd, hs with
            | [a, b, c], _, hd, hs =>
              obtain ⟨rfl, rfl⟩ := List.cons.inj hd
              exact ⟨.whn a b c, rfl, ⟨hs a (by simp), hs b (by simp), hs c (by simp)⟩, rfl⟩
            | [], hl, _, _ => simp at hl
            | [_], hl, _, _ => simp only [List.length_cons, List.length_nil] at hl; omega
            | [_, _], hl, _, _ => simp only [List.length_cons, List.length_nil] at hl; omega
            | _ :: _ :: _ :: _ :: _, hl, _, _ => simp only [List.length_cons] at hl; omega
        · split at h
          · rename_i h4
            obtain ⟨rfl, h5, h6⟩ := h4
            obtain ⟨d2, rfl⟩ : ∃ d2, r = [d2] := by
              match r, h5 with
              | [d2], _ => exact ⟨d2, rfl⟩
            cases d with
            | tuple rows =>
              have h6' : (decide (1 ≤ rows.length) && (decide (rows.length ≤ 4) && rows.all rowM)) = true := h6
              simp only [Bool.and_eq_true, decide_eq_true_iff, List.all_eq_true] at h6'
              obtain ⟨h7, h8, h9⟩ := h6'
              have hd : rows.map sndM ++ [d2] = ps.map Part.data := Option.some.inj h
              obtain ⟨ps1, ps2, rfl, hd1, hd2⟩ := List.map_eq_append_iff.mp hd.symm
              obtain ⟨b, ps3, rfl, hb, hd3⟩ := List.map_eq_cons_iff.mp hd2
              have : ps3 = [] := by simpa using hd3
              subst this
              obtain ⟨rr, q1, q2, q3, q4⟩ := rows_decode h9 hd1.symm
              refine ⟨.letp rr b, ?_, ⟨by omega, fun z => by rw [z] at q4; simp at q4; omega, q3, Rows.shape_parts fun p hp => hs p (by rw [q2] at hp; simp [hp]), hs b (by simp)⟩, by show rr.parts ++ [b] = _; rw [q2]⟩
              show PyData.tuple [.str "let", .tuple rr.datas, b.data] = _
              rw [q1, hb]
            | _ => cases h6
          · cases h
  · cases h
theorem kidsM_eq (s : Str) (d : PyData) (r : List PyData) : kidsM (.tuple (.str s :: d :: r)) = (if s = "number" ∧ r.length = 0 ∧ smallM d = true then some []
    else if (s = "name" ∨ s = "fun") ∧ r.length = 0 ∧ nameM d = true then some []
    else if argsM s = some (r.length + 1) then some (d :: r)
    else if s = "let" ∧ r.length = 1 ∧ rowsM d = true then some ((tupM d).map sndM ++ r)
    else none) := rfl
theorem rows_facts : ∀ r : Rows, (∀ x ∈ r.names, isName x) → r.datas.length = r.names.length ∧ r.datas.all rowM = true ∧ r.datas.map sndM = r.parts.map Part.data
  | .nil, _ => ⟨rfl, rfl, rfl⟩
  | .cons x a r, hn => by
    obtain ⟨k1, k2, k3⟩ := rows_facts r fun y hy => hn y (List.mem_cons_of_mem _ hy)
    refine ⟨congrArg (· + 1) k1, ?_, ?_⟩
    · show (rowM (.tuple [.str x, a.data]) && r.datas.all rowM) = true
      rw [k2, Bool.and_true]
      exact decide_eq_true (hn x List.mem_cons_self)
    · show a.data :: r.datas.map sndM = a.data :: r.parts.map Part.data
      rw [k3]
theorem w_num (k : K1) : k.word ≠ "number" ∧ k.word ≠ "name" ∧ k.word ≠ "fun" := by cases k <;> decide +kernel
theorem w_num2 (k : K2) : k.word ≠ "number" ∧ k.word ≠ "name" ∧ k.word ≠ "fun" := by cases k <;> decide +kernel
theorem w_when : ("when" : Str) ≠ "number" ∧ ("when" : Str) ≠ "name" ∧ ("when" : Str) ≠ "fun" := by decide +kernel
theorem w_let : ("let" : Str) ≠ "number" ∧ ("let" : Str) ≠ "name" ∧ ("let" : Str) ≠ "fun" := by decide +kernel
theorem w_name : ("name" : Str) ≠ "number" ∧ ("fun" : Str) ≠ "number" := by decide +kernel
theorem args_let : argsM "let" = none := by decide +kernel
theorem kidsM_big {s : Str} {d : PyData} {r : List PyData} (h : s ≠ "number" ∧ s ≠ "name" ∧ s ≠ "fun") (ha : argsM s = some (r.length + 1)) : kidsM (.tuple (.str s :: d :: r)) = some (d :: r) := by
  rw [kidsM_eq, if_neg (fun z => h.1 z.1), if_neg (fun z => z.1.elim h.2.1 h.2.2), if_pos ha]
theorem kidsM_data {p : Part} (h : p.shape) : kidsM p.data = some (p.kids.map Part.data) := by
  cases p with
  | num n =>
    show kidsM (.tuple [.str "number", .int n]) = _
    rw [kidsM_eq, if_pos ⟨rfl, rfl, decide_eq_true (p := n.natAbs < 10 ^ 60) h⟩]; rfl
  | name x =>
    show kidsM (.tuple [.str "name", .str x]) = _
    rw [kidsM_eq, if_neg (fun z => w_name.1 z.1), if_pos ⟨.inl rfl, rfl, decide_eq_true (p := isName x) h⟩]; rfl
  | fn x =>
    show kidsM (.tuple [.str "fun", .str x]) = _
    rw [kidsM_eq, if_neg (fun z => w_name.2 z.1), if_pos ⟨.inr rfl, rfl, decide_eq_true (p := isName x) h⟩]; rfl
  | one k a => exact kidsM_big (w_num k) (argsM_1 k)
  | two k a b => exact kidsM_big (w_num2 k) (argsM_2 k)
  | whn a b c => exact kidsM_big w_when argsM_3
  | letp r a =>
    obtain ⟨k1, k2, k3⟩ := rows_facts r h.2.2.1
    have hne : r.names.length ≠ 0 := fun e => h.2.1 (List.eq_nil_of_length_eq_zero e)
    have h4 := h.1
    have hrows : rowsM (.tuple r.datas) = true := by
      show (decide (1 ≤ r.datas.length) && (decide (r.datas.length ≤ 4) && r.datas.all rowM)) = true
      rw [k1, k2, decide_eq_true (by omega), decide_eq_true h4]; rfl
    show kidsM (.tuple [.str "let", .tuple r.datas, a.data]) = some ((r.parts ++ [a]).map Part.data)
    rw [kidsM_eq, if_neg (fun z => w_let.1 z.1), if_neg (fun z => z.1.elim w_let.2.1 w_let.2.2), if_neg (fun z => by rw [args_let] at z; cases z), if_pos ⟨rfl, rfl, hrows⟩, List.map_append]
    show some (r.datas.map sndM ++ [a.data]) = _
    rw [k3]; rfl
  | shut a => exact h.elim
/-! the pile of parts -/
def gq2 (q : Part × Nat) : PyData × Nat := (q.1.data, q.2)
theorem runB_decode : ∀ (f many : Nat) (st : List (PyData × Nat)), many ≤ 60 → runB f many st = true → ∃ qs : List (Part × Nat), qs.map gq2 = st ∧ (∀ q ∈ qs, q.1.shape ∧ q.1.deep + q.2 ≤ 13) ∧ many + dsz qs ≤ 60
  | f, many, [], hm, _ => ⟨[], rfl, fun q hq => (List.not_mem_nil hq).elim, hm⟩
  | 0, many, _ :: _, hm, h => by cases h
  | f + 1, many, (d, k) :: st, hm, h => by
    have h' : (match kidsM d with
      | none => false
      | some ks => if k > 12 ∨ many + 1 > 60 then false else runB f (many + 1) ((ks.map fun x => (x, k + 1)).reverse ++ st)) = true := h
    cases hk : kidsM d with
    | none => rw [hk] at h'; cases h'
    | some ks =>
      rw [hk] at h'
      dsimp only at h'
      by_cases hc : k > 12 ∨ many + 1 > 60
      · rw [if_pos hc] at h'; cases h'
      rw [if_neg hc] at h'
      have hk12 : k ≤ 12 := by omega
      have hm60 : many + 1 ≤ 60 := by omega
      obtain ⟨qs, e, hq, hs⟩ := runB_decode f (many + 1) _ hm60 h'
      obtain ⟨qs1, qs2, rfl, e1, e2⟩ := List.map_eq_append_iff.mp e
      have e3 : qs1.reverse.map gq2 = ks.map fun x => (x, k + 1) := by rw [List.map_reverse, e1, List.reverse_reverse]
      have e4 : ks = (qs1.reverse.map (·.1)).map Part.data := by
        have := congrArg (List.map Prod.fst) e3
        rw [List.map_map, List.map_map] at this
        rw [List.map_map]
        simpa [Function.comp_def, gq2] using this.symm
      have e5 : ∀ q ∈ qs1.reverse, q.2 = k + 1 := by
        intro q hq
        have := List.mem_map_of_mem (f := gq2) hq
        rw [e3] at this
        obtain ⟨x, _, hx⟩ := List.mem_map.mp this
        exact (congrArg Prod.snd hx).symm
      obtain ⟨p, hp1, hp2, hp3⟩ := kidsM_decode hk e4 fun p hp => by
        obtain ⟨q, hqm, rfl⟩ := List.mem_map.mp hp
        exact (hq q (List.mem_append.mpr (.inl (List.mem_reverse.mp hqm)))).1
      refine ⟨(p, k) :: qs2, by rw [List.map_cons, e2]; show (p.data, k) :: st = _; rw [hp1], fun q hqm => ?_, ?_⟩
      · rcases List.mem_cons.mp hqm with rfl | hqm
        · refine ⟨hp2, ?_⟩
          show p.deep + k ≤ 13
          rw [p.mxd_kids, hp3]
          have : mxd (qs1.reverse.map (·.1)) ≤ 12 - k := by
            refine mxd_le fun x hx => ?_
            obtain ⟨q, hqm, rfl⟩ := List.mem_map.mp hx
            have h1 := (hq q (List.mem_append.mpr (.inl (List.mem_reverse.mp hqm)))).2
            have h2 := e5 q hqm
            omega
          omega
        · exact hq q (List.mem_append.mpr (.inr hqm))
      · show many + (p.size + dsz qs2) ≤ 60
        rw [dsz_app] at hs
        have : p.size = 1 + dsz qs1 := by
          rw [p.sz_kids, hp3, List.map_reverse, sz_rev]
          congr 1
          clear hs hq e e1 e3 e4 e5 hp3
          induction qs1 with
          | nil => rfl
          | cons q qs ih => obtain ⟨a, b⟩ := q; show a.size + sz _ = a.size + dsz qs; rw [ih]
        omega
theorem runB_true : ∀ (f many : Nat) (qs : List (Part × Nat)), f + many = 61 → (∀ q ∈ qs, q.1.shape ∧ q.1.deep + q.2 ≤ 13) → many + dsz qs ≤ 60 → runB f many (qs.map gq2) = true
  | f, many, [], _, _, _ => by cases f <;> rfl
  | 0, many, q :: qs, h, _, hs => by omega
  | f + 1, many, (p, k) :: qs, h, hq, hs => by
    have hs' : many + (p.size + dsz qs) ≤ 60 := hs
    have hp := hq (p, k) List.mem_cons_self
    have hd : p.deep + k ≤ 13 := hp.2
    have hmx := p.mxd_kids
    have hsz := p.sz_kids
    show (match kidsM p.data with
      | none => false
      | some ks => if k > 12 ∨ many + 1 > 60 then false else runB f (many + 1) ((ks.map fun x => (x, k + 1)).reverse ++ qs.map gq2)) = true
    rw [kidsM_data hp.1]
    dsimp only
    rw [if_neg (by omega)]
    have e : ((p.kids.map Part.data).map fun x => (x, k + 1)).reverse ++ qs.map gq2 = ((p.kids.map fun x => (x, k + 1)).reverse ++ qs).map gq2 := by
      rw [List.map_append, List.map_reverse, List.map_map, List.map_map]; rfl
    rw [e]
    refine runB_true f (many + 1) _ (by omega) (fun q hqm => ?_) ?_
    · rcases List.mem_append.mp hqm with hqm | hqm
      · obtain ⟨x, hx, rfl⟩ := List.mem_map.mp (List.mem_reverse.mp hqm)
        have := mxd_mem hx
        exact ⟨hp.1.kids x hx, by show x.deep + (k + 1) ≤ 13; omega⟩
      · exact hq q (List.mem_cons_of_mem _ hqm)
    · have e2 : dsz ((p.kids.map fun x => (x, k + 1)).reverse) = sz p.kids := by rw [← List.map_reverse, dsz_map, sz_rev]
      rw [dsz_app, e2]
      omega
theorem bodyM_decode {d : PyData} (h : bodyM d = true) : ∃ p : Part, d = p.data ∧ p.bd := by
  obtain ⟨qs, e, hq, hs⟩ := runB_decode 61 0 [(d, 1)] (by omega) h
  obtain ⟨q, qs', rfl, e1, e2⟩ := List.map_eq_cons_iff.mp e
  obtain ⟨p, k⟩ := q
  have h1 : p.data = d := congrArg Prod.fst e1
  have h2 : k = 1 := congrArg Prod.snd e1
  have h3 := hq (p, k) List.mem_cons_self
  have h4 : p.deep + k ≤ 13 := h3.2
  have h5 : 0 + (p.size + dsz qs') ≤ 60 := hs
  exact ⟨p, h1.symm, h3.1, by omega, by omega⟩
theorem bodyM_true {p : Part} (h : p.bd) : bodyM p.data = true := runB_true 61 0 [(p, 1)] rfl (fun q hq => by rw [List.mem_singleton.mp hq]; exact ⟨h.shape, by show p.deep + 1 ≤ 13; have := h.deep; omega⟩) (by show 0 + (p.size + 0) ≤ 60; have := h.size; omega)
structure Fn1.bd (f : Fn1) : Prop where
  nm : isName f.name
  few : f.things.length ≤ 4
  th : ∀ x ∈ f.things, isName x
  body : f.body.bd
structure Prog.bd (P : Prog) : Prop where
  few : P.fs.length ≤ 8
  fs : ∀ f ∈ P.fs, f.bd
  asked : P.asked.bd
theorem names_decode : ∀ {ds : List PyData}, ds.all nameM = true → ∃ ss : List Str, ds = ss.map PyData.str ∧ ∀ x ∈ ss, isName x
  | [], _ => ⟨[], rfl, fun x hx => (List.not_mem_nil hx).elim⟩
  | d :: ds, h => by
    rw [List.all_cons, Bool.and_eq_true] at h
    obtain ⟨s, rfl, hs⟩ := nameM_inv h.1
    obtain ⟨ss, rfl, hss⟩ := names_decode h.2
    exact ⟨s :: ss, rfl, fun x hx => by rcases List.mem_cons.mp hx with rfl | hx; exact hs; exact hss x hx⟩
theorem functionM_decode {d : PyData} (h : functionM d = true) : ∃ f : Fn1, d = f.data ∧ f.bd := by
  unfold functionM at h
  split at h
  · rename_i n ths b
    simp only [Bool.and_eq_true, decide_eq_true_iff] at h
    obtain ⟨h1, h2, h3, h4⟩ := h
    obtain ⟨s, rfl, hs⟩ := nameM_inv h1
    obtain ⟨ss, rfl, hss⟩ := names_decode h3
    obtain ⟨p, rfl, hp⟩ := bodyM_decode h4
    exact ⟨⟨s, ss, p⟩, rfl, hs, by rw [List.length_map] at h2; exact h2, hss, hp⟩
  · cases h
theorem functions_decode : ∀ {ds : List PyData}, ds.all functionM = true → ∃ fs : List Fn1, ds = fs.map Fn1.data ∧ ∀ f ∈ fs, f.bd
  | [], _ => ⟨[], rfl, fun x hx => (List.not_mem_nil hx).elim⟩
  | d :: ds, h => by
    rw [List.all_cons, Bool.and_eq_true] at h
    obtain ⟨s, rfl, hs⟩ := functionM_decode h.1
    obtain ⟨ss, rfl, hss⟩ := functions_decode h.2
    exact ⟨s :: ss, rfl, fun x hx => by rcases List.mem_cons.mp hx with rfl | hx; exact hs; exact hss x hx⟩
theorem builtM_decode {d : PyData} (h : builtM d = true) : ∃ P : Prog, d = P.data ∧ P.bd := by
  unfold builtM at h
  split at h
  · rename_i fs b
    simp only [Bool.and_eq_true, decide_eq_true_iff] at h
    obtain ⟨h1, h2, h3⟩ := h
    obtain ⟨ss, rfl, hss⟩ := functions_decode h2
    obtain ⟨p, rfl, hp⟩ := bodyM_decode h3
    exact ⟨⟨ss, p⟩, rfl, by rw [List.length_map] at h1; exact h1, hss, hp⟩
  · cases h
theorem names_true {ss : List Str} (h : ∀ x ∈ ss, isName x) : (ss.map PyData.str).all nameM = true := by
  rw [List.all_eq_true]
  intro d hd
  obtain ⟨s, hs, rfl⟩ := List.mem_map.mp hd
  exact decide_eq_true (h s hs)
theorem functionM_true {f : Fn1} (h : f.bd) : functionM f.data = true := by
  show (nameM (.str f.name) && (decide ((f.things.map PyData.str).length ≤ 4) && ((f.things.map PyData.str).all nameM && bodyM f.body.data))) = true
  rw [names_true h.th, bodyM_true h.body, List.length_map, decide_eq_true h.few]
  show (decide (isName f.name) && (true && (true && true))) = true
  rw [decide_eq_true h.nm]; rfl
theorem builtM_true {P : Prog} (h : P.bd) : builtM P.data = true := by
  show (decide ((P.fs.map Fn1.data).length ≤ 8) && ((P.fs.map Fn1.data).all functionM && bodyM P.asked.data)) = true
  rw [bodyM_true h.asked, List.length_map, decide_eq_true h.few, Bool.and_true, Bool.true_and, List.all_eq_true]
  intro d hd
  obtain ⟨s, hs, rfl⟩ := List.mem_map.mp hd
  exact functionM_true (h.fs s hs)
theorem Prog.fine.bd {P : Prog} (h : P.fine) : P.bd := ⟨h.few, fun f hf => ⟨(h.fs f hf).nm, (h.fs f hf).few, (h.fs f hf).th, (h.fs f hf).body.bd⟩, h.asked.bd⟩

/-! ### looks that raise -/
mutual
def tpB : PyData → Bool
  | .none => true
  | .bool _ => true
  | .int _ => true
  | .str _ => true
  | .tuple ds => tpsB ds
  | .list _ => false
  | .dict _ => false
def tpsB : List PyData → Bool
  | [] => true
  | d :: ds => tpB d && tpsB ds
end
mutual
theorem Gq.tp {H : Hp} : ∀ {d : PyData} {v : V}, Gq H v d → tpB d = true → Tp H v d
  | .none, _, h, _ => by cases h; exact .non
  | .bool b, _, h, _ => by cases h; exact .bl b
  | .int i, _, h, _ => by cases h; exact .int i
  | .str x, _, h, _ => by cases h; exact .str x
  | .tuple ds, _, h, e => by
    cases h with
    | tup ea r => exact .tup ea (Gqs.tp r e)
  | .list ds, _, _, e => by cases e
  | .dict ds, _, _, e => by cases e
theorem Gqs.tp {H : Hp} : ∀ {ds : List PyData} {vs : List V}, Gqs H vs ds → tpsB ds = true → Tps H vs ds
  | [], _, h, _ => by cases h; exact .nil
  | d :: ds, _, h, e => by
    have e' : (tpB d && tpsB ds) = true := e
    rw [Bool.and_eq_true] at e'
    cases h with
    | cons a b => exact .cons (Gq.tp a e'.1) (Gqs.tp b e'.2)
end
mutual
theorem Part.tpB : ∀ p : Part, tpB p.data = true
  | .num n => rfl
  | .name x => rfl
  | .fn f => rfl
  | .one k a => by show (true && (Lz.tpB a.data && true)) = true; rw [Part.tpB a]; rfl
  | .two k a b => by show (true && (Lz.tpB a.data && (Lz.tpB b.data && true))) = true; rw [Part.tpB a, Part.tpB b]; rfl
  | .whn a b c => by show (true && (Lz.tpB a.data && (Lz.tpB b.data && (Lz.tpB c.data && true)))) = true; rw [Part.tpB a, Part.tpB b, Part.tpB c]; rfl
  | .letp r a => by show (true && (tpsB r.datas && (Lz.tpB a.data && true))) = true; rw [Rows.tpB r, Part.tpB a]; rfl
  | .shut a => by show (true && (Lz.tpB a.data && true)) = true; rw [Part.tpB a]; rfl
theorem Rows.tpB : ∀ r : Rows, tpsB r.datas = true
  | .nil => rfl
  | .cons x a r => by show ((true && (Lz.tpB a.data && true)) && tpsB r.datas) = true; rw [Part.tpB a, Rows.tpB r]; rfl
end
theorem tpsB_all : ∀ {ds : List PyData}, (∀ d ∈ ds, Lz.tpB d = true) → tpsB ds = true
  | [], _ => rfl
  | d :: ds, h => by show (Lz.tpB d && tpsB ds) = true; rw [h d List.mem_cons_self, tpsB_all fun x hx => h x (List.mem_cons_of_mem _ hx)]; rfl
theorem Fn1.tpB (f : Fn1) : Lz.tpB f.data = true := by
  show (true && (tpsB (f.things.map PyData.str) && (Lz.tpB f.body.data && true))) = true
  rw [Part.tpB, tpsB_all fun d hd => by obtain ⟨s, _, rfl⟩ := List.mem_map.mp hd; rfl]; rfl
theorem Prog.tpB (P : Prog) : Lz.tpB P.data = true := by
  show (tpsB (P.fs.map Fn1.data) && (Lz.tpB P.asked.data && true)) = true
  rw [Part.tpB, tpsB_all fun d hd => by obtain ⟨s, _, rfl⟩ := List.mem_map.mp hd; exact s.tpB]; rfl
/-! the model -/
def dupG : List Str → List Str → Option Str
  | _, [] => none
  | seen, x :: r => if x ∈ seen then some x else dupG (seen ++ [x]) r
theorem dupG_nodup : ∀ {seen r : List Str}, (seen ++ r).Nodup → dupG seen r = none
  | _, [], _ => rfl
  | seen, x :: r, h => by
    show (if x ∈ seen then some x else dupG (seen ++ [x]) r) = none
    rw [if_neg fun hx => (List.nodup_append.mp h).2.2 x hx x List.mem_cons_self rfl]
    exact dupG_nodup (by rw [List.append_assoc]; exact h)
theorem dup_at {ns : List Str} {i : Nat} (hi : i < ns.length) : dupG (ns.take i) (ns.drop i) = if ns[i] ∈ ns.take i then some ns[i] else dupG (ns.take (i + 1)) (ns.drop (i + 1)) := by
  rw [List.drop_eq_getElem_cons hi, List.take_succ_eq_append_getElem hi]; rfl
mutual
def Part.odd (fs : List Str) : List Str → Part → Option Str
  | _, .num _ => none
  | sc, .name x => if x ∈ sc then none else some x
  | _, .fn f => if f ∈ fs then none else some f
  | sc, .one _ a => a.odd fs sc
  | sc, .two _ a b => (a.odd fs sc).or (b.odd fs sc)
  | sc, .whn a b c => (a.odd fs sc).or ((b.odd fs sc).or (c.odd fs sc))
  | sc, .letp r a => (r.odd fs (sc ++ r.names)).or (a.odd fs (sc ++ r.names))
  | _, .shut _ => none
def Rows.odd (fs : List Str) : List Str → Rows → Option Str
  | _, .nil => none
  | sc, .cons _ a r => (a.odd fs sc).or (r.odd fs sc)
end
def oddL (fs sc : List Str) : List Part → Option Str
  | [] => none
  | p :: ps => (p.odd fs sc).or (oddL fs sc ps)
theorem Rows.odd_parts {fs sc : List Str} : ∀ r : Rows, r.odd fs sc = oddL fs sc r.parts
  | .nil => rfl
  | .cons _ a r => by show (a.odd fs sc).or (r.odd fs sc) = (a.odd fs sc).or (oddL fs sc r.parts); rw [Rows.odd_parts r]
theorem Part.odd_plain {fs sc : List Str} {p : Part} (hw : plainWord p.word) (hs : p.word ≠ "shut") : p.odd fs sc = oddL fs sc p.kids := by
  cases p with
  | one k a => show _ = (a.odd fs sc).or none; rw [Option.or_none]; rfl
  | two k a b => show _ = (a.odd fs sc).or ((b.odd fs sc).or none); rw [Option.or_none]; rfl
  | whn a b c => show _ = (a.odd fs sc).or ((b.odd fs sc).or ((c.odd fs sc).or none)); rw [Option.or_none]; rfl
  | shut a => exact absurd rfl hs
  | num n => exact absurd (show ("number" : Str) ∈ [("number" : Str), "fun", "let", "name"] from by simp) hw
  | name n => exact absurd (show ("name" : Str) ∈ [("number" : Str), "fun", "let", "name"] from by simp) hw
  | fn n => exact absurd (show ("fun" : Str) ∈ [("number" : Str), "fun", "let", "name"] from by simp) hw
  | letp r a => exact absurd (show ("let" : Str) ∈ [("number" : Str), "fun", "let", "name"] from by simp) hw
mutual
theorem Part.ok.odd {fs : List Str} : ∀ {p : Part} {sc : List Str}, p.ok fs sc → p.odd fs sc = none
  | .num n, _, _ => rfl
  | .name x, _, h => if_pos h.1
  | .fn x, _, h => if_pos h.1
  | .one _ a, _, h => Part.ok.odd (p := a) h
  | .two _ a b, sc, h => by show (a.odd fs sc).or (b.odd fs sc) = none; rw [Part.ok.odd (p := a) h.1, Part.ok.odd (p := b) h.2]; rfl
  | .whn a b c, sc, h => by show (a.odd fs sc).or ((b.odd fs sc).or (c.odd fs sc)) = none; rw [Part.ok.odd (p := a) h.1, Part.ok.odd (p := b) h.2.1, Part.ok.odd (p := c) h.2.2]; rfl
  | .letp r a, sc, h => by show (r.odd fs (sc ++ r.names)).or (a.odd fs (sc ++ r.names)) = none; rw [Rows.ok.odd (r := r) h.2.2.2.1, Part.ok.odd (p := a) h.2.2.2.2]; rfl
  | .shut _, _, h => h.elim
theorem Rows.ok.odd {fs : List Str} : ∀ {r : Rows} {sc : List Str}, r.ok fs sc → r.odd fs sc = none
  | .nil, _, _ => rfl
  | .cons _ a r, sc, h => by show (a.odd fs sc).or (r.odd fs sc) = none; rw [Part.ok.odd (p := a) h.1, Rows.ok.odd (r := r) h.2]; rfl
end
def lookF (fs : List Str) (q : List Str × Part) : Option (Str × Str) := match dupG [] (q.1 ++ q.2.rowNames) with
  | some x => some ("Hidden", x)
  | none => (q.2.odd fs q.1).map fun x => ("Stranger", x)
def lookL (fs : List Str) : List (List Str × Part) → Option (Str × Str)
  | [] => none
  | q :: qs => (lookF fs q).or (lookL fs qs)
def Prog.items (P : Prog) : List (List Str × Part) := P.fs.map (fun f => (f.things, f.body)) ++ [([], P.asked)]
def lookM (P : Prog) : Option (Str × Str) := match dupG [] P.names with
  | some x => some ("Twice", x)
  | none => lookL P.names P.items
theorem lookL_none {fs : List Str} : ∀ {qs : List (List Str × Part)}, (∀ q ∈ qs, lookF fs q = none) → lookL fs qs = none
  | [], _ => rfl
  | q :: qs, h => by show (lookF fs q).or (lookL fs qs) = none; rw [h q List.mem_cons_self, lookL_none fun x hx => h x (List.mem_cons_of_mem _ hx)]; rfl
theorem Part.fine.look {fs sc : List Str} {p : Part} (h : p.fine fs sc) (hn : sc.Nodup) : lookF fs (sc, p) = none := by
  unfold lookF
  have : (sc ++ p.rowNames).Nodup := List.nodup_append.mpr ⟨hn, h.nd, fun y hy z hz e => (h.un z hz).2 (e ▸ hy)⟩
  rw [dupG_nodup (by rw [List.nil_append]; exact this)]
  show (p.odd fs sc).map _ = none
  rw [Part.ok.odd h.ok]; rfl
theorem Prog.fine.look {P : Prog} (h : P.fine) : lookM P = none := by
  unfold lookM
  rw [dupG_nodup (by rw [List.nil_append]; exact h.nd)]
  refine lookL_none fun q hq => ?_
  rcases List.mem_append.mp hq with hq | hq
  · obtain ⟨f, hf, rfl⟩ := List.mem_map.mp hq
    exact (h.fs f hf).body.look (h.fs f hf).nd
  · rw [List.mem_singleton.mp hq]
    exact h.asked.look List.nodup_nil
/-! the walks -/
/-- an error of a class with its name -/
def Raised (K : PySem.W.Frag) (c x : Str) (E : XK) (H : Hp) : Prop := ∀ (dd : Addr) (H' : Hp), H dd = none → H' dd = some (.xd [("name", .str x)]) → Same H H' → E (.ref (He.ga K c)) (some dd) H'
theorem Raised.mono {K : PySem.W.Frag} {c x : Str} {E : XK} {H H1 : Hp} (h : Raised K c x E H) (s : Same H H1) : Raised K c x E H1 := fun dd H' n e s' => h dd H' (s.free n) e (s.trans s')
theorem g_raiseN {K : PySem.W.Frag} {c x : Str} {E : XK} {H : Hp} (q : Raised K c x E H) : RaiseR (He.ga K c) (spXInit K (He.ga K c) "name") E [.str x] H := g_raise1 fun d H' n e s => q d H' n e s
theorem pure_initTwice {K : PySem.W.Frag} {w : World} (e : Errs K) : PureOk 2 (spXInit K (He.ga K "Twice") "name") (t_Twice___init__ K w) 2 := by
  refine ⟨fun vs H Q E ⟨_, _, e, _⟩ => by rw [e]; rfl, ?_⟩
  rintro vs H Q E ⟨a, v, rfl, ha, q⟩
  exact g_ost1 e.o_Twice e.s.ti.nm ⟨v, rfl, .ref a, rfl, rfl, ha, q⟩ (fun h ⟨v, e, q⟩ => ⟨v, e, h _ _ q⟩) (fun h ⟨v, e, q⟩ => ⟨v, e, h _ _ q⟩)
theorem pure_initHidden {K : PySem.W.Frag} {w : World} (e : Errs K) : PureOk 2 (spXInit K (He.ga K "Hidden") "name") (t_Hidden___init__ K w) 2 := by
  refine ⟨fun vs H Q E ⟨_, _, e, _⟩ => by rw [e]; rfl, ?_⟩
  rintro vs H Q E ⟨a, v, rfl, ha, q⟩
  exact g_ost1 e.o_Hidden e.s.hi.nm ⟨v, rfl, .ref a, rfl, rfl, ha, q⟩ (fun h ⟨v, e, q⟩ => ⟨v, e, h _ _ q⟩) (fun h ⟨v, e, q⟩ => ⟨v, e, h _ _ q⟩)
theorem pure_initStranger {K : PySem.W.Frag} {w : World} (e : Errs K) : PureOk 2 (spXInit K (He.ga K "Stranger") "name") (t_Stranger___init__ K w) 2 := by
  refine ⟨fun vs H Q E ⟨_, _, e, _⟩ => by rw [e]; rfl, ?_⟩
  rintro vs H Q E ⟨a, v, rfl, ha, q⟩
  exact g_ost1 e.o_Stranger e.s.si.nm ⟨v, rfl, .ref a, rfl, rfl, ha, q⟩ (fun h ⟨v, e, q⟩ => ⟨v, e, h _ _ q⟩) (fun h ⟨v, e, q⟩ => ⟨v, e, h _ _ q⟩)
def spUnlikeX (K : PySem.W.Frag) : Sp := fun vs H Q E => ∃ (l : Addr) (ns : List Str), vs = [.ref l] ∧ H l = some (.lst (ns.map V.str)) ∧ ns.length ≤ 1000 ∧ (dupG [] ns = none → ∀ H', Same H H' → Q .non H') ∧ ∀ x, dupG [] ns = some x → Raised K "Hidden" x E H
theorem pure_unlikeX {K : PySem.W.Frag} {w : World} : PureOkX 1 (spUnlikeX K) (tx_look_unlike K w (spXInit K (He.ga K "Hidden") "name")) 2 := by
  refine ⟨fun vs H Q E ⟨_, _, e, _⟩ => by rw [e]; rfl, ?_⟩
  rintro vs H Q E ⟨l, ns, rfl, el, hl, qn, qe⟩
  show tx_look_unlike K w _ E _ [some (.ref l), none] H
  unfold tx_look_unlike
  walk_at "gg"
  have hj : ((ns.map V.str).length : Int).toNat = ns.length := by rw [List.length_map]; omega
  refine g_isrng (by omega) (by rw [List.length_map]; omega) ?_
  rw [hj]
  refine for_any ns.length (fun i σ H' => ∃ x1, σ = [some (.ref l), x1] ∧ Same H H' ∧ dupG (ns.take i) (ns.drop i) = dupG [] ns) ⟨_, rfl, .refl _, rfl⟩ (fun i σ H' hi _ => hi) (fun σ H' _ => Nat.le_refl _) ?_ ?_
  · rintro i x σ _ H1 hi ⟨x1, rfl, s1, hd⟩ ⟨rfl, rfl⟩
    have el1 := s1 _ _ el
    have hg : ns[i]? = some ns[i] := List.getElem?_eq_getElem hi
    rw [dup_at hi] at hd
    walk_at "gg"
    rw [Int.zero_add]
    refine g_ixL (.of el1) (v := .str ns[i]) (atI_of (by omega) (by rw [Int.toNat_natCast, List.getElem?_map, hg]; rfl)) ?_
    walk_at "gg"
    refine g_slL (.of el1) ?_
    rw [cut_to]
    walk_at "gg"
    rename_i l2 H2 n2 e2 s2
    refine g_inL (ss := ns.take i) (.of e2) ?_
    walk_at "gg"
    by_cases hm : ns[i] ∈ ns.take i
    · rw [if_pos hm] at hd
      refine g_T (decide_eq_true hm) ?_
      walk_at "gg"
      refine g_ixL (.of (s2 _ _ el1)) (v := .str ns[i]) (atI_of (by omega) (by rw [Int.toNat_natCast, List.getElem?_map, hg]; rfl)) ?_
      walk_at "gg"
      exact g_raiseN ((qe _ hd.symm).mono (s1.trans s2))
    · rw [if_neg hm] at hd
      refine g_F (decide_eq_false hm) ?_
      walk_at "gg"
      exact ⟨_, rfl, s1.trans s2, hd⟩
  · rintro σ H1 ⟨x1, rfl, s1, hd⟩
    rw [List.drop_length] at hd
    exact qn hd.symm H1 s1
def spNamedX (K : PySem.W.Frag) (m : Nat) : Sp := fun vs H Q E => ∃ (v : V) (kl fl : Addr) (p : Part) (fs sc : List Str), vs = [v, .ref kl, .ref fl] ∧ Tp H v p.data ∧ p.shape ∧ p.deep ≤ m ∧ p.size ≤ 60 ∧ H kl = some (.lst (sc.map V.str)) ∧ H fl = some (.lst (fs.map V.str)) ∧ sc.length + 4 * m ≤ 100 ∧
  (p.odd fs sc = none → ∀ H', Same H H' → Q .non H') ∧ ∀ x, p.odd fs sc = some x → Raised K "Stranger" x E H
theorem oddL_at {fs sc : List Str} {ps : List Part} {i : Nat} {p : Part} (h : ps[i]? = some p) : oddL fs sc (ps.drop i) = (p.odd fs sc).or (oddL fs sc (ps.drop (i + 1))) := by
  obtain ⟨h1, h2⟩ := List.getElem?_eq_some_iff.mp h
  rw [List.drop_eq_getElem_cons h1, h2]; rfl
theorem pure_namedX {K : PySem.W.Frag} {w : World} (T : KTab K w (He.ga K "PARTS") PARTSkvs) {m : Nat} : PureOkX 3 (spNamedX K (m + 1)) (tx_look_named K w (spXInit K (He.ga K "Stranger") "name") (spNamedX K m)) 6 := by
  refine ⟨fun vs H Q E ⟨_, _, _, _, _, _, e, _⟩ => by rw [e]; rfl, ?_⟩
  rintro vs H Q E ⟨v, kl, fl, p, fs, sc, rfl, t, hok, hdp, hz, ek, ef, hlen, qn, qe⟩
  show tx_look_named K w _ _ E _ [some v, some (.ref kl), some (.ref fl), none, none, none] H
  unfold tx_look_named
  have hdk := p.mxd_kids
  have hsk := p.sz_kids
  rcases word_cases p with ⟨n, rfl⟩ | ⟨x, rfl⟩ | ⟨f, rfl⟩ | ⟨r, b, rfl⟩ | ⟨b, rfl⟩ | ⟨hw, hs⟩
  · obtain ⟨a, u1, u2, rfl, ea, t1, t2⟩ := t.two
    rw [t1.str_inv] at ea
    walk_at "gg"
    exact qn rfl H (.refl _)
  · obtain ⟨a, u1, u2, rfl, ea, t1, t2⟩ := t.two
    rw [t1.str_inv, t2.str_inv] at ea
    walk_at "gg"
    refine g_notInL (ss := sc) (.of ek) ?_
    walk_at "gg"
    by_cases hx : x ∈ sc
    · refine g_F (by rw [decide_eq_true hx]; rfl) ?_
      walk_at "gg"
      exact qn (if_pos hx) H (.refl _)
    · refine g_T (by rw [decide_eq_false hx]; rfl) ?_
      walk_at "gg"
      exact g_raiseN (qe _ (if_neg hx))
  · obtain ⟨a, u1, u2, rfl, ea, t1, t2⟩ := t.two
    rw [t1.str_inv, t2.str_inv] at ea
    walk_at "gg"
    refine g_notInL (ss := fs) (.of ef) ?_
    walk_at "gg"
    by_cases hx : f ∈ fs
    · refine g_F (by rw [decide_eq_true hx]; rfl) ?_
      walk_at "gg"
      exact qn (if_pos hx) H (.refl _)
    · refine g_T (by rw [decide_eq_false hx]; rfl) ?_
      walk_at "gg"
      exact g_raiseN (qe _ (if_neg hx))
  · obtain ⟨a, u1, u2, u3, rfl, ea, t1, t2, t3⟩ := t.three
    rw [t1.str_inv] at ea
    obtain ⟨ra, rs, rfl, er, tr⟩ := t2.tup_inv
    have hrl : rs.length = r.names.length := by rw [tr.length, r.len, Rows.list_names, Rows.list_parts, List.length_map, List.length_map]
    have hrp : rs.length = r.parts.length := by rw [tr.length, r.len]
    have hfew := hok.1
    walk_at "gg"
    refine g_seqT ?_
    walk_at "gg"
    refine lc_mapT er (by omega) (fun i y H' => ∃ nm, r.names[i]? = some nm ∧ y = .str nm) (fun i y H H' k h => h) ?_ ?_
    · intro j y H' Nx hy s hN
      obtain ⟨d, hd, ty⟩ := tr.get hy
      obtain ⟨nm, p2, hnm, hp2, rfl⟩ := Rows.get hd
      obtain ⟨a2, u1, u2, rfl, ea2, tn, tp⟩ := ty.two
      rw [tn.str_inv] at ea2
      walk_at "gg"
      refine ⟨rfl, ?_⟩
      walk_at "gg"
      exact hN _ _ (.refl _) ⟨nm, hnm, rfl⟩
    · intro D ys H2 nD eD hys hF s2
      have hys2 : ys = r.names.map V.str := by
        refine List.ext_getElem? fun i => ?_
        cases e : ys[i]? with
        | none =>
          rw [List.getElem?_eq_none_iff] at e
          rw [List.getElem?_eq_none (by rw [List.length_map]; omega)]
        | some y =>
          obtain ⟨nm, hq, rfl⟩ := hF i y e
          rw [List.getElem?_map, hq]
          rfl
      subst hys2
      refine g_addL (s2 _ _ ek) eD (by simp only [List.length_map]; show _ ≤ 16777216; omega) ?_
      walk_at "gg"
      rename_i il H3 n3 e3 s3
      rw [← List.map_append] at e3
      have s03 := s2.trans s3
      have ea3 := s03 _ _ ea
      have er3 := s03 _ _ er
      have tr3 := tr.mono (Same.tk s03)
      have ef3 := s03 _ _ ef
      have t33 := t3.mono (Same.tk s03)
      have hokr : r.shape := hok.2.2.2.1
      have hokb : b.shape := hok.2.2.2.2
      have hli : (sc ++ r.names).length + 4 * m ≤ 100 := by rw [List.length_append]; omega
      have hpk : ∀ p2 ∈ r.parts, p2 ∈ (Part.letp r b).kids := fun p2 h => List.mem_append.mpr (.inl h)
      have hbk : b ∈ (Part.letp r b).kids := List.mem_append.mpr (.inr (by simp))
      have hodd : (Part.letp r b).odd fs sc = (oddL fs (sc ++ r.names) r.parts).or (b.odd fs (sc ++ r.names)) := by rw [← Rows.odd_parts]; rfl
      rw [hodd] at qn qe
      clear ea er tr ef t3 s2 s3 eD nD t t2 hodd
      walk_at "gg"
      refine g_seqT ?_
      walk_at "gg"
      refine for_T (xs := rs) (fun i σ H' => ∃ x4 x5, σ = [some (.ref a), some (.ref kl), some (.ref fl), some (.ref il), x4, x5] ∧ Same H3 H' ∧ (oddL fs (sc ++ r.names) (r.parts.drop i)).or (b.odd fs (sc ++ r.names)) = (oddL fs (sc ++ r.names) r.parts).or (b.odd fs (sc ++ r.names)))
        (fun i σ H' ⟨_, _, _, s, _⟩ => s _ _ er3) ⟨_, _, rfl, .refl _, rfl⟩ ?_ ?_
      · rintro i x σ H4 hx ⟨x4, x5, rfl, s4, ho⟩
        obtain ⟨d, hd, tx⟩ := tr3.get hx
        obtain ⟨nm, p2, hnm, hp2, rfl⟩ := Rows.get hd
        obtain ⟨a2, u1, u2, rfl, ea2, tn, tp⟩ := tx.two
        have hm2 := List.mem_of_getElem? hp2
        have := mxd_mem (hpk p2 hm2)
        have := sz_mem (hpk p2 hm2)
        rw [oddL_at hp2] at ho
        walk_at "gg"
        refine ⟨u2, il, fl, p2, fs, sc ++ r.names, rfl, tp.mono (Same.tk s4), Rows.parts_shape hokr p2 hm2, by omega, by omega, s4 _ _ e3, s4 _ _ ef3, hli, fun hno H5 s5 => ?_, fun z hz => ?_⟩
        · rw [hno, Option.none_or] at ho
          exact ⟨_, _, rfl, s4.trans s5, ho⟩
        · rw [hz] at ho
          exact (qe z (by rw [← ho]; rfl)).mono (s03.trans s4)
      · rintro σ H4 ⟨x4, x5, rfl, s4, ho⟩
        rw [hrp, List.drop_length] at ho
        have ho' : b.odd fs (sc ++ r.names) = (oddL fs (sc ++ r.names) r.parts).or (b.odd fs (sc ++ r.names)) := ho
        rw [← ho'] at qn qe
        have ea4 := s4 _ _ ea3
        have := mxd_mem hbk
        have := sz_mem hbk
        walk_at "gg"
        refine ⟨u3, il, fl, b, fs, sc ++ r.names, rfl, t33.mono (Same.tk s4), hokb, by omega, by omega, s4 _ _ e3, s4 _ _ ef3, hli, fun hno H5 s5 => ?_, fun z hz => (qe z hz).mono (s03.trans s4)⟩
        exact qn hno H5 (s03.trans (s4.trans s5))
  · exact hok.elim
  · obtain ⟨a, xs, rfl, ea, tx⟩ := t.part
    rw [Part.args_subs hw, subs_kids hw hs] at tx
    rw [Part.odd_plain hw hs] at qn qe
    have hxl : xs.length = p.kids.length := by rw [tx.length, List.length_map]
    have hkl := sz_len p.kids
    walk_at "gg"
    refine g_F (decide_eq_false (not_name hw)) ?_
    walk_at "gg"
    refine g_F (decide_eq_false fun e => hw (by rw [e]; simp)) ?_
    walk_at "gg"
    refine g_F (decide_eq_false fun e => hw (by rw [e]; simp)) ?_
    walk_at "gg"
    refine g_inK T (r := true) (PARTS_in hw hs) ?_
    walk_at "gg"
    refine g_seqT ?_
    walk_at "gg"
    refine g_slT (.of ea) (not_whole (by simp)) fun p2 H2 n2 e2 s2 => ?_
    rw [cut_tail] at e2
    refine g_isT (.of e2) ?_
    refine for_T (xs := xs) (fun i σ H' => ∃ x5, σ = [some (.ref a), some (.ref kl), some (.ref fl), none, none, x5] ∧ Same H2 H' ∧ oddL fs sc (p.kids.drop i) = oddL fs sc p.kids) (fun i σ H' ⟨_, _, s, _⟩ => s _ _ e2) ⟨_, rfl, .refl _, rfl⟩ ?_ ?_
    · rintro i x σ H3 hx ⟨x5, rfl, s3, ho⟩
      obtain ⟨d, hd, tx'⟩ := tx.get hx
      rw [List.getElem?_map] at hd
      obtain ⟨p2, hp2, rfl⟩ := Option.map_eq_some_iff.mp hd
      have hm2 := List.mem_of_getElem? hp2
      have := mxd_mem hm2
      have := sz_mem hm2
      have s23 := s2.trans s3
      rw [oddL_at hp2] at ho
      walk_at "gg"
      refine ⟨x, kl, fl, p2, fs, sc, rfl, tx'.mono (Same.tk s23), hok.kids p2 hm2, by omega, by omega, s23 _ _ ek, s23 _ _ ef, by omega, fun hno H4 s4 => ?_, fun z hz => ?_⟩
      · rw [hno, Option.none_or] at ho
        exact ⟨_, rfl, s3.trans s4, ho⟩
      · rw [hz] at ho
        exact (qe z (by rw [← ho]; rfl)).mono s23
    · rintro σ H3 ⟨x5, rfl, s3, ho⟩
      rw [hxl, List.drop_length] at ho
      exact qn ho.symm H3 (s2.trans s3)
theorem lookL_at {fs : List Str} {qs : List (List Str × Part)} {i : Nat} {q : List Str × Part} (h : qs[i]? = some q) : lookL fs (qs.drop i) = (lookF fs q).or (lookL fs (qs.drop (i + 1))) := by
  obtain ⟨h1, h2⟩ := List.getElem?_eq_some_iff.mp h
  rw [List.drop_eq_getElem_cons h1, h2]; rfl
def spLookedX (K : PySem.W.Frag) : Sp := fun vs H Q E => ∃ (v : V) (d : PyData), vs = [v] ∧ Gq H v d ∧ (builtM d = false → ∀ H', Same H H' → E (.ref (He.ga K "NoProgram")) none H') ∧
  (builtM d = true → ∃ P : Prog, d = P.data ∧ P.bd ∧ (lookM P = none → ∀ H', Same H H' → Q v H') ∧ ∀ c x, lookM P = some (c, x) → Raised K c x E H)
theorem pure_lookedX {K : PySem.W.Frag} {w : World} : PureOkX 1 (spLookedX K) (tx_looked K w spIsBuiltX (spXInit K (He.ga K "Twice") "name") (spUnlikeX K) spRowNames (spNamedX K 12)) 6 := by
  refine ⟨fun vs H Q E ⟨_, _, e, _⟩ => by rw [e]; rfl, ?_⟩
  rintro vs H Q E ⟨v, d, rfl, t, qno, qP⟩
  show tx_looked K w _ _ _ _ _ E _ [some v, none, none, none, none, none] H
  unfold tx_looked
  walk_at "gg"
  refine ⟨v, d, rfl, t, fun H1 s1 => ?_⟩
  walk_at "gg"
  by_cases hb : builtM d = true
  rotate_left
  · have hb' : builtM d = false := by simpa using hb
    refine g_T (by rw [hb']; rfl) ?_
    walk_at "gg"
    exact qno hb' H1 s1
  refine g_F (by rw [hb]; rfl) ?_
  obtain ⟨P, rfl, hbd, qn, qe⟩ := qP hb
  have tP := t.tp P.tpB
  clear qno qP t hb
  obtain ⟨pa, fa, u, vs, rfl, epa, efa, tfs, tas⟩ := tP.prog
  have hvl : vs.length = P.fs.length := by rw [tfs.length, List.length_map]
  have hfew := hbd.few
  have epa1 := s1 _ _ epa
  have efa1 := s1 _ _ efa
  have tfs1 := tfs.mono (Same.tk s1)
  have tas1 := tas.mono (Same.tk s1)
  clear epa efa tfs tas tP
  walk_at "gg"
  refine g_seqT ?_
  walk_at "gg"
  refine lc_mapT efa1 (by omega) (fun i y H' => ∃ nm, P.names[i]? = some nm ∧ y = .str nm) (fun i y H H' k h => h) ?_ ?_
  · intro i x H' Nx hx s hN
    obtain ⟨d, hd, td⟩ := tfs1.get hx
    rw [List.getElem?_map] at hd
    obtain ⟨f, hf, rfl⟩ := Option.map_eq_some_iff.mp hd
    obtain ⟨a3, b3, u3, rfl, ea3, eb3, tu3⟩ := td.fn1
    walk_at "gg"
    refine ⟨rfl, ?_⟩
    walk_at "gg"
    exact hN _ _ (.refl _) ⟨f.name, by show (P.fs.map _)[i]? = _; rw [List.getElem?_map, hf]; rfl, rfl⟩
  intro D ys H2 nD eD hys hF s2
  have hnl : P.names.length = P.fs.length := by show (P.fs.map _).length = _; rw [List.length_map]
  have hys2 : ys = P.names.map V.str := by
    refine List.ext_getElem? fun i => ?_
    cases e : ys[i]? with
    | none =>
      rw [List.getElem?_eq_none_iff] at e
      rw [List.getElem?_eq_none (by rw [List.length_map]; omega)]
    | some y =>
      obtain ⟨nm, hq, rfl⟩ := hF i y e
      rw [List.getElem?_map, hq]
      rfl
  subst hys2
  have epa2 := s2 _ _ epa1
  have efa2 := s2 _ _ efa1
  have tfs2 := tfs1.mono (Same.tk s2)
  have tas2 := tas1.mono (Same.tk s2)
  have s02 := s1.trans s2
  clear epa1 efa1 tfs1 tas1 s1 s2 hF nD hys
  walk_at "gg"
  have hj : ((P.names.map V.str).length : Int).toNat = P.names.length := by rw [List.length_map]; omega
  refine g_isrng (by omega) (by rw [List.length_map]; omega) ?_
  rw [hj]
  refine for_any P.names.length (fun i σ H' => ∃ x5, σ = [some (.ref pa), some (.ref D), none, none, none, x5] ∧ Same H2 H' ∧ dupG (P.names.take i) (P.names.drop i) = dupG [] P.names) ⟨_, rfl, .refl _, rfl⟩ (fun i σ H' hi _ => hi) (fun σ H' _ => Nat.le_refl _) ?_ ?_
  · rintro i x σ _ H3 hi ⟨x5, rfl, s3, hdup⟩ ⟨rfl, rfl⟩
    have el1 := s3 _ _ eD
    have hg : P.names[i]? = some P.names[i] := List.getElem?_eq_getElem hi
    rw [dup_at hi] at hdup
    walk_at "gg"
    rw [Int.zero_add]
    refine g_ixL (.of el1) (v := .str P.names[i]) (atI_of (by omega) (by rw [Int.toNat_natCast, List.getElem?_map, hg]; rfl)) ?_
    walk_at "gg"
    refine g_slL (.of el1) ?_
    rw [cut_to]
    walk_at "gg"
    rename_i l4 H4 n4 e4 s4
    refine g_inL (ss := P.names.take i) (.of e4) ?_
    walk_at "gg"
    by_cases hm : P.names[i] ∈ P.names.take i
    · rw [if_pos hm] at hdup
      refine g_T (decide_eq_true hm) ?_
      walk_at "gg"
      refine g_ixL (.of (s4 _ _ el1)) (v := .str P.names[i]) (atI_of (by omega) (by rw [Int.toNat_natCast, List.getElem?_map, hg]; rfl)) ?_
      walk_at "gg"
      exact g_raiseN ((qe "Twice" _ (by unfold lookM; rw [← hdup])).mono (s02.trans (s3.trans s4)))
    · rw [if_neg hm] at hdup
      refine g_F (decide_eq_false hm) ?_
      walk_at "gg"
      exact ⟨_, rfl, s3.trans s4, hdup⟩
  rintro σ H3 ⟨x5, rfl, s3, hdup⟩
  rw [List.drop_length] at hdup
  have hlook : lookM P = lookL P.names P.items := by unfold lookM; rw [← hdup]; rfl
  rw [hlook] at qn qe
  have epa3 := s3 _ _ epa2
  have efa3 := s3 _ _ efa2
  have tfs3 := tfs2.mono (Same.tk s3)
  have tas3 := tas2.mono (Same.tk s3)
  have eD3 := s3 _ _ eD
  have s03 := s02.trans s3
  clear epa2 efa2 tfs2 tas2 s02 s3 eD hlook hdup
  walk_at "gg"
  refine g_seqL ?_
  walk_at "gg"
  refine g_seqT ?_
  walk_at "gg"
  refine lc_mapT efa3 (by omega) (fun i y H' => ∃ c b u' f, P.fs[i]? = some f ∧ y = .ref c ∧ H' c = some (.tup [.ref b, u']) ∧ H' b = some (.tup (f.things.map V.str)) ∧ Tp H' u' f.body.data)
    (fun i y H H' k ⟨c, b, u', f, h1, h2, h3, h4, h5⟩ => ⟨c, b, u', f, h1, h2, k _ _ h3, k _ _ h4, h5.mono k⟩) ?_ ?_
  · intro i x H' Nx hx s hN
    obtain ⟨d, hd, td⟩ := tfs3.get hx
    rw [List.getElem?_map] at hd
    obtain ⟨f, hf, rfl⟩ := Option.map_eq_some_iff.mp hd
    obtain ⟨a3, b3, u3, rfl, ea3, eb3, tu3⟩ := td.fn1
    walk_at "gg"
    refine ⟨rfl, ?_⟩
    walk_at "gg"
    rename_i c4 H4 n4 e4 s4
    exact hN _ _ s4 ⟨c4, b3, u3, f, hf, rfl, e4, s4 _ _ (s _ _ eb3), (tu3.mono (Same.tk s)).mono (Same.tk s4)⟩
  intro D2 ys H4 nD2 eD2 hys hF s4
  have epa4 := s4 _ _ epa3
  have tas4 := tas3.mono (Same.tk s4)
  have eD4 := s4 _ _ eD3
  have s04 := s03.trans s4
  clear epa3 tas3 eD3 s03 s4 efa3 tfs3
  walk_at "gg"
  rename_i t5 H5 n5 e5 s5 c6 H6 n6 e6 s6 l7 H7 n7 e7 s7 l8 H8 n8 e8 s8
  have s48 : Same H4 H8 := s5.trans (s6.trans (s7.trans s8))
  have hyl : ys.length = P.fs.length := by rw [hys, hvl]
  have hitem : ∀ (i : Nat) x, (ys ++ [V.ref c6])[i]? = some x → ∃ c b u' ths bd, P.items[i]? = some (ths, bd) ∧ x = .ref c ∧ H8 c = some (.tup [.ref b, u']) ∧ H8 b = some (.tup ((ths : List Str).map V.str)) ∧ Tp H8 u' (Part.data bd) ∧ bd.bd ∧ ths.length ≤ 4 := by
    intro i x hx
    have hml : (P.fs.map fun f => (f.things, f.body)).length = ys.length := by rw [List.length_map, hyl]
    by_cases hi : i < ys.length
    · rw [List.getElem?_append_left hi] at hx
      obtain ⟨c, b, u', f, h1, h2, h3, h4, h5⟩ := hF i x hx
      have hff := hbd.fs f (List.mem_of_getElem? h1)
      exact ⟨c, b, u', f.things, f.body, by unfold Prog.items; rw [List.getElem?_append_left (by omega), List.getElem?_map, h1]; rfl, h2, s48 _ _ h3, s48 _ _ h4, h5.mono (Same.tk s48), hff.body, hff.few⟩
    · have hj := (List.getElem?_eq_some_iff.mp hx).1
      rw [List.length_append, List.length_singleton] at hj
      have hi' : i = ys.length := by omega
      subst hi'
      rw [List.getElem?_append_right (Nat.le_refl _), Nat.sub_self] at hx
      cases hx
      exact ⟨c6, t5, u, [], P.asked, by unfold Prog.items; rw [← hml, List.getElem?_append_right (Nat.le_refl _), Nat.sub_self]; rfl, rfl, s8 _ _ (s7 _ _ e6), s8 _ _ (s7 _ _ (s6 _ _ e5)), tas4.mono (Same.tk s48), hbd.asked, by decide⟩
  have hwl : (ys ++ [V.ref c6]).length = P.items.length := by unfold Prog.items; rw [List.length_append, List.length_append, List.length_map, hyl]; rfl
  have s08 := s04.trans s48
  have eD8 := s48 _ _ eD4
  clear hF eD4 tas4 epa4 e5 e6 e7 s5 s6 s7 s8 s48 n5 n6 n7 n8 s04 eD2 nD2
  generalize ys ++ [V.ref c6] = ws at *
  refine for_L (xs := ws) (fun i σ H' => ∃ x3 x4, σ = [some (.ref pa), some (.ref D), none, x3, x4, x5] ∧ Same H8 H' ∧ lookL P.names (P.items.drop i) = lookL P.names P.items) (fun i σ H' ⟨_, _, _, s, _⟩ => s _ _ e8) ⟨_, _, rfl, .refl _, rfl⟩ ?_ ?_
  rotate_left
  · rintro σ H9 ⟨x3, x4, rfl, s9, hlk⟩
    rw [hwl, List.drop_length] at hlk
    walk_at "gg"
    exact qn hlk.symm H9 (s08.trans s9)
  rintro i x σ H9 hx ⟨x3, x4, rfl, s9, hlk⟩
  obtain ⟨c, b, u', ths, bd, hit, rfl, ec, eb, tb, hb, hl4⟩ := hitem i x hx
  rw [lookL_at hit] at hlk
  have ec9 := s9 _ _ ec
  have eb9 := s9 _ _ eb
  have tb9 := tb.mono (Same.tk s9)
  have eD9 := s9 _ _ eD8
  clear ec eb tb
  walk_at "gg"
  rename_i l10 H10 n10 e10 s10
  have hrs := bd.rn_size
  have hbz := hb.size
  have hbd' := hb.deep
  refine ⟨u', bd, rfl, tb9.mono (Same.tk s10), hb.good, hb.size, fun l11 H11 n11 e11 s11 => ?_⟩
  refine g_addL (s11 _ _ e10) e11 (by simp only [List.length_map]; show _ ≤ 16777216; omega) ?_
  walk_at "gg"
  rename_i l12 H12 n12 e12 s12
  rw [← List.map_append] at e12
  have s912 := s10.trans (s11.trans s12)
  refine ⟨l12, ths ++ bd.rowNames, rfl, e12, by rw [List.length_append]; omega, fun hno H13 s13 => ?_, fun z hz => ?_⟩
  rotate_left
  · have hF2 : lookF P.names (ths, bd) = some (("Hidden" : Str), z) := by unfold lookF; rw [hz]
    rw [hF2] at hlk
    exact (qe "Hidden" z (by rw [← hlk]; rfl)).mono (s08.trans (s9.trans s912))
  have hF2 : lookF P.names (ths, bd) = (bd.odd P.names ths).map fun x => (("Stranger" : Str), x) := by unfold lookF; rw [hno]
  rw [hF2] at hlk
  have s913 := s912.trans s13
  have eb13 := s913 _ _ eb9
  have tb13 := tb9.mono (Same.tk s913)
  have eD13 := s913 _ _ eD9
  clear eb9 tb9 eD9 s10 s11 s12 s13 e10 e11 e12 n10 n11 n12 ec9 s912
  walk_at "gg"
  rename_i l14 H14 n14 e14 s14
  refine ⟨u', l14, D, bd, P.names, ths, rfl, tb13.mono (Same.tk s14), hb.shape, hb.deep, hb.size, e14, s14 _ _ eD13, by omega, fun hno2 H15 s15 => ?_, fun z hz => ?_⟩
  · rw [hno2] at hlk
    exact ⟨_, _, rfl, s9.trans (s913.trans (s14.trans s15)), by rw [← hlk]; rfl⟩
  · rw [hz] at hlk
    exact (qe "Stranger" z (by rw [← hlk]; rfl)).mono (s08.trans (s9.trans (s913.trans s14)))

/-! ### what the law tells of a look -/
def t_toldR (K : PySem.W.Frag) (w : World) : TS :=
  (tSeq (tIfS (tTest (tOp (rIsG false) (tVar 2) (tC .non))) (tRet (tIf (tTest (tOp (rEqG K) (tVar 1) (tVar 0))) (tTupN (tCons (tC (.str "")) (tCons (tC (.str "")) tNil))) (tTupN (tCons (tC (.str "another")) (tCons (tC (.str "")) tNil))))) tNext)
  (tSeq (tAsg (tLstN (tCons (tCB (rIsiX K) (tCons (tVar 2) (tCons (tC (.ref (He.ga K "NoProgram"))) tNil))) (tCons (tCB (rIsiX K) (tCons (tVar 2) (tCons (tC (.ref (He.ga K "Twice"))) tNil))) (tCons (tCB (rIsiX K) (tCons (tVar 2) (tCons (tC (.ref (He.ga K "Hidden"))) tNil))) tNil)))) (gName 4))
  (tSeq (tAsg (tOp (rAddG K) (tVar 4) (tLstN (tCons (tCB (rIsiX K) (tCons (tVar 2) (tCons (tC (.ref (He.ga K "Stranger"))) tNil))) (tCons (tCB (rIsiX K) (tCons (tVar 2) (tCons (tC (.ref (He.ga K "More"))) tNil))) (tCons (tCB (rIsiX K) (tCons (tVar 2) (tCons (tC (.ref (He.ga K "NoRows"))) tNil))) tNil))))) (gName 4))
  (tSeq (tAsg (tOp (rAddG K) (tVar 4) (tLstN (tCons (tCB (rIsiX K) (tCons (tVar 2) (tCons (tC (.ref (He.ga K "NoText"))) tNil))) (tCons (tCB (rIsiX K) (tCons (tVar 2) (tCons (tC (.ref (He.ga K "NoRow"))) tNil))) tNil)))) (gName 4))
  (tSeq (tIfS (tOr (tTest (tOp (rNeG K) (tBM K "list" (rCount K) (tVar 4) (tCons (tC (.bl true)) tNil)) (tC (.int 1)))) (tOr (tNot (tTru K (tCB (rIsiX K) (tCons (tVar 2) (tCons (tC (.ty "ValueError")) tNil))))) (tTest (tOp rGtG (tBM K "list" (rIndex K) (tVar 4) (tCons (tC (.bl true)) tNil)) (tC (.int 3)))))) (tRet (tTupN (tCons (tC (.str "none")) (tCons (tC (.str "")) tNil)))) tNext)
  (tSeq (tIfS (tTru K (tIxG K w (tVar 4) (tC (.int 0)))) (tRet (tTupN (tCons (tC (.str "program")) (tCons (tC (.str "")) tNil)))) tNext)
  (tRet (tTupN (tCons (tIxG K w (tLstN (tCons (tC (.str "program")) (tCons (tC (.str "twice")) (tCons (tC (.str "hidden")) (tCons (tC (.str "stranger")) tNil))))) (tBM K "list" (rIndex K) (tVar 4) (tCons (tC (.bl true)) tNil))) (tCons (tFldX K "name" (tVar 2)) tNil))))))))))
def wordE (c : Str) : Str := if c = "NoProgram" then "program" else if c = "Twice" then "twice" else if c = "Hidden" then "hidden" else "stranger"
theorem g_trublX {K : PySem.W.Frag} {H : Hp} {R : Bool → Prop} {k : Bool} (q : R k) : ∃ k', TruV K (.bl k) H k' ∧ R k' := ⟨k, rfl, q⟩
theorem told_rest {K : PySem.W.Frag} {w : World} {D : Ends} {H : Hp} {x0 x1 x3 x4 : Option V} {a : Addr} {c : Str} {d : Option Addr} (b0 b1 b2 b3 b4 b5 b6 b7 : Bool) (ha : H a = some (hxc a (He.ga K c) d)) (hd : ∀ dd, d = some dd → ∃ fs, H dd = some (.xd fs)) (ec : ErrC K c)
    (h0 : decide (c = "NoProgram") = b0) (h1 : decide (c = "Twice") = b1) (h2 : decide (c = "Hidden") = b2) (h3 : decide (c = "Stranger") = b3) (h4 : decide (c = "More") = b4) (h5 : decide (c = "NoRows") = b5) (h6 : decide (c = "NoText") = b6) (h7 : decide (c = "NoRow") = b7) (hc : ([V.bl b0, .bl b1, .bl b2, .bl b3, .bl b4, .bl b5, .bl b6, .bl b7].countP fun z => L2.eqV z (.bl true)) = 1) (j : Nat) (hj : [V.bl b0, .bl b1, .bl b2, .bl b3, .bl b4, .bl b5, .bl b6, .bl b7][j]? = some (.bl true))
    (hmin : ∀ (m : Nat) (z' : V), m < j → [V.bl b0, .bl b1, .bl b2, .bl b3, .bl b4, .bl b5, .bl b6, .bl b7][m]? = some z' → L2.eqV z' (.bl true) = false) (hj3 : j ≤ 3) (s : Str) (hs : [V.str "program", .str "twice", .str "hidden", .str "stranger"][j]? = some (.str s))
    (q0 : b0 = true → ∀ t H', Same H H' → H' t = some (.tup [.str "program", .str ""]) → D.rt (.ref t) H')
    (q1 : b0 = false → PySem.W.findIn K (.ref (He.ga K c)) "name" = some none ∧ ∃ dd x, d = some dd ∧ H dd = some (.xd [("name", .str x)]) ∧ ∀ t H', Same H H' → H' t = some (.tup [.str s, .str x]) → D.rt (.ref t) H') :
    t_toldR K w D [x0, x1, some (.ref a), x3, x4] H := by
  have hI : ∀ (t : Str) (b : Bool), t ∈ (["NoProgram", "Twice", "Hidden", "Stranger", "More", "NoRows", "NoText", "NoRow"] : List Str) → decide (c = t) = b → PySem.W.kitOne K (.ref (He.ga K c)) (.ref (He.ga K t)) = some b := fun t b ht hb => by rw [← hb]; exact ec.is t ht
  have hd' : ∀ {H'}, Same H H' → ∀ dd, d = some dd → ∃ fs, H' dd = some (.xd fs) := fun s dd e => by obtain ⟨fs, h⟩ := hd dd e; exact ⟨fs, s _ _ h⟩
  unfold t_toldR
  walk_at "gg"
  refine .inl ⟨rfl, ?_⟩
  walk_at "gg"
  refine g_isXR ha hd ec.x (hI "NoProgram" b0 (by simp) h0) ?_
  walk_at "gg"
  refine g_isXR ha hd ec.x (hI "Twice" b1 (by simp) h1) ?_
  walk_at "gg"
  refine g_isXR ha hd ec.x (hI "Hidden" b2 (by simp) h2) ?_
  walk_at "gg"
  rename_i l1 H1 n1 e1 s1
  refine g_isXR (s1 _ _ ha) (hd' s1) ec.x (hI "Stranger" b3 (by simp) h3) ?_
  walk_at "gg"
  refine g_isXR (s1 _ _ ha) (hd' s1) ec.x (hI "More" b4 (by simp) h4) ?_
  walk_at "gg"
  refine g_isXR (s1 _ _ ha) (hd' s1) ec.x (hI "NoRows" b5 (by simp) h5) ?_
  walk_at "gg"
  rename_i l2 H2 n2 e2 s2 l3 H3 n3 e3 s3
  have s13 := s1.trans (s2.trans s3)
  refine g_isXR (s13 _ _ ha) (hd' s13) ec.x (hI "NoText" b6 (by simp) h6) ?_
  walk_at "gg"
  refine g_isXR (s13 _ _ ha) (hd' s13) ec.x (hI "NoRow" b7 (by simp) h7) ?_
  walk_at "gg"
  rename_i l4 H4 n4 e4 s4 l5 H5 n5 e5 s5
  have s15 := s13.trans (s4.trans s5)
  have e5' : H5 l5 = some (.lst [V.bl b0, .bl b1, .bl b2, .bl b3, .bl b4, .bl b5, .bl b6, .bl b7]) := e5
  refine g_count (.of e5') rfl rfl ?_
  rw [hc]
  walk_at "gg"
  refine g_isXT (s15 _ _ ha) (hd' s15) ec.x ec.ve ?_
  walk_at "gg"
  refine ⟨l5, _, .bl true, j, .bl true, rfl, rfl, .of e5', rfl, rfl, hj, rfl, hmin, ?_⟩
  walk_at "gg"
  refine g_F (decide_eq_false (by omega)) ?_
  walk_at "gg"
  refine g_ite (fun hb => ?_) (fun hb => ?_)
  · walk_at "gg"
    rename_i t6 H6 n6 e6 s6
    exact q0 hb t6 H6 (s15.trans s6) e6
  · obtain ⟨hnm, dd, x, rfl, hdd, q⟩ := q1 hb
    walk_at "gg"
    rename_i l6 H6 n6 e6 s6
    have s16 := s15.trans s6
    refine ⟨l5, _, .bl true, j, .bl true, rfl, rfl, .of (s6 _ _ e5'), rfl, rfl, hj, rfl, hmin, ?_⟩
    walk_at "gg"
    refine g_ixL (.of e6) (v := .str s) (atI_of (by omega) (by rw [Int.toNat_natCast]; exact hs)) ?_
    walk_at "gg"
    refine g_fldX ?_
    walk_at "gg"
    refine ⟨a, He.ga K c, dd, [("name", .str x)], .str x, rfl, s16 _ _ ha, s16 _ _ hdd, ec.x, hnm, rfl, ?_⟩
    walk_at "gg"
    rename_i t7 H7 n7 e7 s7
    exact q t7 H7 (s16.trans s7) e7
theorem lookF_cls {fs : List Str} {q : List Str × Part} {c x : Str} (h : lookF fs q = some (c, x)) : c = "Hidden" ∨ c = "Stranger" := by
  unfold lookF at h
  split at h
  · cases h; exact .inl rfl
  · cases e : q.2.odd fs q.1 with
    | none => rw [e] at h; cases h
    | some y => rw [e] at h; cases h; exact .inr rfl
theorem lookL_cls {fs : List Str} {c x : Str} : ∀ {qs : List (List Str × Part)}, lookL fs qs = some (c, x) → c = "Hidden" ∨ c = "Stranger"
  | [], h => by cases h
  | q :: qs, h => by
    have h' : (lookF fs q).or (lookL fs qs) = some (c, x) := h
    cases e : lookF fs q with
    | none => rw [e, Option.none_or] at h'; exact lookL_cls h'
    | some y =>
      rw [e] at h'
      cases h'
      exact lookF_cls e
theorem lookM_cls {P : Prog} {c x : Str} (h : lookM P = some (c, x)) : c = "Twice" ∨ c = "Hidden" ∨ c = "Stranger" := by
  unfold lookM at h
  split at h
  · cases h; exact .inl rfl
  · exact .inr (lookL_cls h)
def spToldX : Sp := fun vs H Q _ => ∃ (v : V) (d : PyData), vs = [v] ∧ Gq H v d ∧ (builtM d = false → ∀ t H', Same H H' → H' t = some (.tup [.str "program", .str ""]) → Q (.ref t) H') ∧
  (builtM d = true → ∃ P : Prog, d = P.data ∧ P.bd ∧ (lookM P = none → ∀ t H', Same H H' → H' t = some (.tup [.str "", .str ""]) → Q (.ref t) H') ∧ ∀ c x, lookM P = some (c, x) → ∀ t H', Same H H' → H' t = some (.tup [.str (wordE c), .str x]) → Q (.ref t) H')
theorem prog_like {K : PySem.W.Frag} {H : Hp} {v : V} {P : Prog} (t : Tp H v P.data) (hb : P.bd) : LkR K H (Lk K H 150) v v := by
  obtain ⟨pa, fa, u, vs, rfl, epa, efa, tfs, tas⟩ := t.prog
  obtain ⟨ua, us, rfl, _, _⟩ := tas.part
  exact .inr ⟨pa, pa, _, _, rfl, rfl, .of epa, .of epa, .cons (.inr (.inl ⟨fa, rfl, rfl⟩)) (.cons (.inr (.inl ⟨ua, rfl, rfl⟩)) .nil)⟩
theorem pure_toldX {K : PySem.W.Frag} {w : World} (er : Errs K) : PureOk 1 spToldX (t_law_told K w (spLookedX K)) 5 := by
  refine ⟨fun vs H Q E ⟨_, _, e, _⟩ => by rw [e]; rfl, ?_⟩
  rintro vs H Q E ⟨v, d, rfl, t, qno, qP⟩
  show t_law_told K w _ _ [some v, none, none, none, none] H
  unfold t_law_told
  walk_at "gg"
  refine ⟨v, d, rfl, t, fun hb H1 s1 => ?_, fun hb => ?_⟩
  rotate_left
  · obtain ⟨P, hP, hbd, qn, qe⟩ := qP hb
    subst hP
    refine ⟨P, rfl, hbd, fun hl H1 s1 => ?_, fun c x hl dd H1 hdn hdd s1 => ?_⟩
    · walk_at "gg"
      refine .inl ⟨rfl, ?_⟩
      walk_at "gg"
      have tP := (t.tp P.tpB).mono (Same.tk s1)
      refine g_eqLk (prog_like tP hbd) (Nat.le_refl 150) ?_
      walk_at "gg"
      rename_i t2 H2 n2 e2 s2
      exact qn hl t2 H2 (s1.trans s2) e2
    have hcls := lookM_cls hl
    have q' := qe c x hl
    have ec : ErrC K c := by
      rcases hcls with rfl | rfl | rfl
      · exact er.s.t
      · exact er.s.h
      · exact er.s.s
    refine ⟨_, rfl, ec.lz, fun a ha => ?_⟩
    refine g_asg (g_var (v := .ref a) rfl (g_name rfl ?_))
    have s1a : Same H1 (upd H1 a (hxc a (He.ga K c) (some dd))) := same_upd ha
    have hdd' := s1a _ _ hdd
    rcases hcls with rfl | rfl | rfl
    · show t_toldR K w _ [some v, some .non, some (.ref a), none, none] _
      exact told_rest false true false false false false false false upd_same (fun d e => by cases e; exact ⟨_, hdd'⟩) ec (by decide +kernel) (by decide +kernel) (by decide +kernel) (by decide +kernel) (by decide +kernel) (by decide +kernel) (by decide +kernel) (by decide +kernel) rfl 1 rfl (fun m z' h hz => by
          have hm : m < 1 := h
          match m, hm with
          | 0, _ => cases hz; rfl
          ) (by decide) (wordE "Twice") (by decide +kernel) (fun h => by cases h) (fun _ => ⟨er.s.ti.nm, dd, x, rfl, hdd', fun t H' s' e => q' t H' (s1.trans (s1a.trans s')) e⟩)
    · show t_toldR K w _ [some v, some .non, some (.ref a), none, none] _
      exact told_rest false false true false false false false false upd_same (fun d e => by cases e; exact ⟨_, hdd'⟩) ec (by decide +kernel) (by decide +kernel) (by decide +kernel) (by decide +kernel) (by decide +kernel) (by decide +kernel) (by decide +kernel) (by decide +kernel) rfl 2 rfl (fun m z' h hz => by
          have hm : m < 2 := h
          match m, hm with
          | 0, _ => cases hz; rfl
          | 1, _ => cases hz; rfl
          ) (by decide) (wordE "Hidden") (by decide +kernel) (fun h => by cases h) (fun _ => ⟨er.s.hi.nm, dd, x, rfl, hdd', fun t H' s' e => q' t H' (s1.trans (s1a.trans s')) e⟩)
    · show t_toldR K w _ [some v, some .non, some (.ref a), none, none] _
      exact told_rest false false false true false false false false upd_same (fun d e => by cases e; exact ⟨_, hdd'⟩) ec (by decide +kernel) (by decide +kernel) (by decide +kernel) (by decide +kernel) (by decide +kernel) (by decide +kernel) (by decide +kernel) (by decide +kernel) rfl 3 rfl (fun m z' h hz => by
          have hm : m < 3 := h
          match m, hm with
          | 0, _ => cases hz; rfl
          | 1, _ => cases hz; rfl
          | 2, _ => cases hz; rfl
          ) (by decide) (wordE "Stranger") (by decide +kernel) (fun h => by cases h) (fun _ => ⟨er.s.si.nm, dd, x, rfl, hdd', fun t H' s' e => q' t H' (s1.trans (s1a.trans s')) e⟩)
  · refine ⟨_, rfl, er.s.p.lz, fun a ha => ?_⟩
    refine g_asg (g_var (v := .ref a) rfl (g_name rfl ?_))
    have s1a : Same H1 (upd H1 a (hxc a (He.ga K "NoProgram") none)) := same_upd ha
    show t_toldR K w _ [some v, some .non, some (.ref a), none, none] _
    exact told_rest true false false false false false false false upd_same (fun dd e => by cases e) er.s.p (by decide +kernel) (by decide +kernel) (by decide +kernel) (by decide +kernel) (by decide +kernel) (by decide +kernel) (by decide +kernel) (by decide +kernel) rfl 0 rfl (fun m z' h => absurd h (Nat.not_lt_zero _)) (by decide) "program" rfl
      (fun _ t H' s' e => qno hb t H' (s1.trans (s1a.trans s')) e) (fun h => by cases h)

/-! ### data kept while others are made -/
theorem PenAt.tl {H H' : Hp} {pen L : Addr} (p : PenAt H pen L) (p' : PenAt H' pen L) (c : Chg pen H H') : Tl H H' := by
  obtain ⟨_, _, _, h, _⟩ := p
  obtain ⟨_, _, _, h', _⟩ := p'
  exact c.tl h h'
theorem Tl.same {H H1 H2 : Hp} (t : Tl H H1) (s : Same H1 H2) : Tl H H2 := t.trans (Same.tl s)
theorem Tl.pen {H H1 H2 : Hp} {pen L : Addr} (t : Tl H H1) (p : PenAt H1 pen L) (p' : PenAt H2 pen L) (c : Chg pen H1 H2) : Tl H H2 := t.trans (p.tl p' c)
theorem Gq.to {H H' : Hp} {v : V} {d : PyData} (h : Gq H v d) (k : Tl H H') : Gq H' v d := h.mono k
theorem Gqs.to {H H' : Hp} {vs : List V} {ds : List PyData} (h : Gqs H vs ds) (k : Tl H H') : Gqs H' vs ds := h.mono k
mutual
def shB : PyData → Bool
  | .none => true
  | .bool _ => true
  | .int _ => true
  | .str x => decide (x.length ≤ 16777216)
  | .tuple ds => shsB ds
  | .list _ => false
  | .dict _ => false
def shsB : List PyData → Bool
  | [] => true
  | d :: ds => shB d && shsB ds
end
mutual
theorem Tp.gq {H : Hp} : ∀ {d : PyData} {v : V}, Tp H v d → shB d = true → Gq H v d
  | .none, _, h, _ => by cases h; exact .non
  | .bool b, _, h, _ => by cases h; exact .bl b
  | .int i, _, h, _ => by cases h; exact .int i
  | .str x, _, h, e => by cases h; exact .str x (of_decide_eq_true (p := x.length ≤ 16777216) e)
  | .tuple ds, _, h, e => by
    cases h with
    | tup ea r => exact .tup ea (Tps.gq r e)
  | .list ds, _, h, _ => by cases h
  | .dict ds, _, h, _ => by cases h
theorem Tps.gq {H : Hp} : ∀ {ds : List PyData} {vs : List V}, Tps H vs ds → shsB ds = true → Gqs H vs ds
  | [], _, h, _ => by cases h; exact .nil
  | d :: ds, _, h, e => by
    have e' : (shB d && shsB ds) = true := e
    rw [Bool.and_eq_true] at e'
    cases h with
    | cons a b => exact .cons (Tp.gq a e'.1) (Tps.gq b e'.2)
end
theorem sh_name {x : Str} (h : isName x) : shB (.str x) = true := decide_eq_true (p := x.length ≤ 16777216) (by have := h.2.1; omega)
theorem sh_k1 (k : K1) : shB (.str k.word) = true := by cases k <;> decide +kernel
theorem sh_k2 (k : K2) : shB (.str k.word) = true := by cases k <;> decide +kernel
theorem sh_ws : shB (.str "number") = true ∧ shB (.str "name") = true ∧ shB (.str "fun") = true ∧ shB (.str "when") = true ∧ shB (.str "let") = true := by decide +kernel
mutual
theorem Part.shape.sh : ∀ {p : Part}, p.shape → shB p.data = true
  | .num n, _ => by show (shB (.str "number") && (true && true)) = true; rw [sh_ws.1]; rfl
  | .name x, h => by show (shB (.str "name") && (shB (.str x) && true)) = true; rw [sh_ws.2.1, sh_name h]; rfl
  | .fn x, h => by show (shB (.str "fun") && (shB (.str x) && true)) = true; rw [sh_ws.2.2.1, sh_name h]; rfl
  | .one k a, h => by show (shB (.str k.word) && (shB a.data && true)) = true; rw [sh_k1, Part.shape.sh (p := a) h]; rfl
  | .two k a b, h => by show (shB (.str k.word) && (shB a.data && (shB b.data && true))) = true; rw [sh_k2, Part.shape.sh (p := a) h.1, Part.shape.sh (p := b) h.2]; rfl
  | .whn a b c, h => by show (shB (.str "when") && (shB a.data && (shB b.data && (shB c.data && true)))) = true; rw [sh_ws.2.2.2.1, Part.shape.sh (p := a) h.1, Part.shape.sh (p := b) h.2.1, Part.shape.sh (p := c) h.2.2]; rfl
  | .letp r a, h => by show (shB (.str "let") && (shsB r.datas && (shB a.data && true))) = true; rw [sh_ws.2.2.2.2, Rows.shape.sh (r := r) h.2.2.2.1 h.2.2.1, Part.shape.sh (p := a) h.2.2.2.2]; rfl
  | .shut _, h => h.elim
theorem Rows.shape.sh : ∀ {r : Rows}, r.shape → (∀ x ∈ r.names, isName x) → shsB r.datas = true
  | .nil, _, _ => rfl
  | .cons x a r, h, hn => by show ((shB (.str x) && (shB a.data && true)) && shsB r.datas) = true; rw [sh_name (hn x List.mem_cons_self), Part.shape.sh (p := a) h.1, Rows.shape.sh (r := r) h.2 fun y hy => hn y (List.mem_cons_of_mem _ hy)]; rfl
end
theorem shsB_all : ∀ {ds : List PyData}, (∀ d ∈ ds, shB d = true) → shsB ds = true
  | [], _ => rfl
  | d :: ds, h => by show (shB d && shsB ds) = true; rw [h d List.mem_cons_self, shsB_all fun x hx => h x (List.mem_cons_of_mem _ hx)]; rfl
theorem Fn1.bd.sh {f : Fn1} (h : f.bd) : shB f.data = true := by
  show (shB (.str f.name) && (shsB (f.things.map PyData.str) && (shB f.body.data && true))) = true
  rw [sh_name h.nm, h.body.shape.sh, shsB_all fun d hd => by obtain ⟨s, hs, rfl⟩ := List.mem_map.mp hd; exact sh_name (h.th s hs)]; rfl
theorem Prog.bd.shs {P : Prog} (h : P.bd) : shsB (P.fs.map Fn1.data) = true := shsB_all fun d hd => by obtain ⟨f, hf, rfl⟩ := List.mem_map.mp hd; exact (h.fs f hf).sh
theorem Prog.bd.sh {P : Prog} (h : P.bd) : shB P.data = true := by
  show (shsB (P.fs.map Fn1.data) && (shB P.asked.data && true)) = true
  rw [h.shs, h.asked.shape.sh]; rfl
section
variable {K : PySem.W.Frag} {H : Hp} {Q : VK} {a b : Addr} {xs ys : List V}
/-- tuples put together, cut, however they are -/
theorem g_addTT (h1 : H a = some (.tup xs)) (h2 : H b = some (.tup ys)) (hl : xs.length + ys.length ≤ sizeLine) (q : ∀ c H', H' c = some (.tup (xs ++ ys)) → Same H H' → Q (.ref c) H') : rAddG K (.ref a) (.ref b) H Q := by
  refine .inr (.inr (.inr ⟨a, b, xs, ys, rfl, rfl, .of h1, .of h2, hl, fun e => ?_, fun _ e => ?_, fun _ _ p H' _ e s => q p H' e s⟩))
  · subst e
    exact q b H h2 (.refl _)
  · subst e
    exact q a H (by rw [List.append_nil]; exact h1) (.refl _)
theorem g_slTo {i : Nat} (h : H a = some (.tup xs)) (hi : i < xs.length) (q : ∀ c H', H' c = some (.tup (xs.take i)) → Same H H' → Q (.ref c) H') : rSlG K (.ref a) none (some (i : Int)) H Q := by
  have hw : ¬ (HT.sIx xs.length 0 none = 0 ∧ HT.sIx xs.length xs.length (some (i : Int)) = xs.length) := by
    rintro ⟨_, h2⟩
    rw [HT.sIx_nat] at h2
    omega
  refine g_slT (.of h) hw fun c H' n e s => ?_
  have hc : cutV xs none (some (i : Int)) = xs.take i := by
    unfold cutV
    rw [HT.sIx_none, HT.sIx_nat, Nat.min_eq_left (by omega), Nat.sub_zero, List.drop_zero]
  rw [hc] at e
  exact q c H' e s
theorem g_slFrom {i : Nat} (h : H a = some (.tup xs)) (hi : i < xs.length) (q : ∀ c H', H' c = some (.tup (xs.drop (i + 1))) → Same H H' → Q (.ref c) H') : rSlG K (.ref a) (some ((i : Int) + 1)) none H Q := by
  have hw : ¬ (HT.sIx xs.length 0 (some ((i : Int) + 1)) = 0 ∧ HT.sIx xs.length xs.length none = xs.length) := by
    rintro ⟨h2, _⟩
    rw [show (i : Int) + 1 = ((i + 1 : Nat) : Int) from rfl, HT.sIx_nat] at h2
    omega
  refine g_slT (.of h) hw fun c H' n e s => ?_
  have hc : cutV xs (some ((i : Int) + 1)) none = xs.drop (i + 1) := by
    unfold cutV
    rw [HT.sIx_none, show (i : Int) + 1 = ((i + 1 : Nat) : Int) from rfl, HT.sIx_nat, Nat.min_eq_left (by omega)]
    rw [List.take_of_length_le (by rw [List.length_drop]; omega)]
  rw [hc] at e
  exact q c H' e s
end
theorem Gqs.take {H : Hp} : ∀ {xs : List V} {ds : List PyData} (n : Nat), Gqs H xs ds → Gqs H (xs.take n) (ds.take n)
  | _, _, 0, _ => .nil
  | [], _, n + 1, h => by cases h; exact .nil
  | x :: xs, _, n + 1, h => by
    cases h with
    | cons a b => exact .cons a (Gqs.take n b)
theorem Gqs.drop {H : Hp} : ∀ {xs : List V} {ds : List PyData} (n : Nat), Gqs H xs ds → Gqs H (xs.drop n) (ds.drop n)
  | _, _, 0, h => h
  | [], _, n + 1, h => by cases h; exact .nil
  | x :: xs, _, n + 1, h => by
    cases h with
    | cons a b => exact Gqs.drop n b
theorem depth_strs : ∀ ss : List Str, PyData.depthAll (ss.map PyData.str) = 0
  | [] => by rw [List.map_nil, PyData.depthAll]
  | s :: ss => by rw [List.map_cons, PyData.depthAll, depth_strs ss, PyData.depth]; rfl
theorem shaped_fs {P : Prog} (h : P.fine) : SeqAt.shaped (.tuple (P.fs.map Fn1.data)) = true := by
  have : SeqAt.shaped (.list (P.fs.map Fn1.data)) = true := shaped_list (k := 38) (fun d hd => by
      obtain ⟨f, hf, rfl⟩ := List.mem_map.mp hd
      have hff := h.fs f hf
      have h1 := SeqAt.canLay_of_shaped (shaped_names hff.th)
      rw [PyData.canLay0] at h1
      show PyData.canLay0 (.tuple [.str f.name, .tuple (f.things.map .str), f.body.data]) = true
      rw [PyData.canLay0, PyData.canLayAll0, canLay_name hff.nm, PyData.canLayAll0, PyData.canLay0, h1, PyData.canLayAll0, hff.body.good.lay.1, PyData.canLayAll0]; rfl) (fun d hd => by
      obtain ⟨f, hf, rfl⟩ := List.mem_map.mp hd
      have hff := h.fs f hf
      have h1 := hff.body.good.lay.2
      show PyData.depth (.tuple [.str f.name, .tuple (f.things.map .str), f.body.data]) ≤ 38
      rw [PyData.depth, PyData.depthAll, PyData.depthAll, PyData.depthAll, PyData.depthAll, PyData.depth, PyData.depth, depth_strs]
      omega) (by decide)
  exact this
theorem g_cutA {A : Prop} (C : Addr → Hp → Prop) {B : Addr → Hp → Prop} (f : (∀ l H', C l H' → B l H') → A) (b : ∀ l H', C l H' → B l H') : A := f b

local macro_rules | `(tactic| walk_at "tl") => `(tactic| first
  | assumption
  | exact Tl.refl _
  | ((with_reducible refine Tl.same (H1 := ?gh) ?gt ?gs); (case gs => assumption); walk_at "tl")
  | ((with_reducible refine Tl.pen (H1 := ?gh) (pen := ?gp) (L := ?gq) ?gt ?g1 ?g2 ?gs); (case gs => assumption); (case g1 => walk_at "pen"); (case g2 => walk_at "pen"); walk_at "tl"))
local macro_rules | `(tactic| walk_at "gqs") => `(tactic| first
  | assumption
  | exact Gqs.nil
  | (with_reducible (refine Gqs.cons ?g1 ?g2); (case g1 => walk_at "gq"); walk_at "gqs")
  | ((refine Gqs.to (H := ?gh) ?gt ?gk); (case gt => assumption); walk_at "tl"))
local macro_rules | `(tactic| walk_at "gq") => `(tactic| first
  | assumption
  | exact Gq.non
  | exact Gq.bl _
  | exact Gq.int _
  | exact Gq.str _ (by decide +kernel)
  | ((refine Gq.to (H := ?gh) ?gt ?gk); (case gt => assumption); walk_at "tl")
  | ((refine Gq.tup (xs := ?gx) ?g1 ?g2); (case g1 => walk_at "at"); walk_at "gqs")
  | ((refine Gq.lst (xs := ?gx) ?g1); (case g1 => walk_at "at")))

/-! ### k06: nested things -/
structure Nst (d : PyData) : Prop where
  body : bodyM d = false
  fn : functionM d = false
  built : builtM d = false
  str : ∀ s, d = .str s → s = "give" ∨ s = "?"
theorem bodyM_no {d : PyData} (h : kidsM d = none) : bodyM d = false := by
  show (match kidsM d with
    | none => false
    | some ks => if 1 > 12 ∨ 0 + 1 > 60 then false else runB 60 (0 + 1) ((ks.map fun k => (k, 1 + 1)).reverse ++ [])) = false
  rw [h]
theorem nst_one (d : PyData) : Nst (.tuple [d]) := ⟨bodyM_no (by cases d <;> rfl), rfl, by cases d <;> rfl, fun s h => by cases h⟩
theorem nst_lst (ds : List PyData) : Nst (.list ds) := ⟨bodyM_no rfl, rfl, rfl, fun s h => by cases h⟩
theorem nst_left {d : PyData} (h : Nst d) : Nst (.tuple [.str "left", d]) := by
  refine ⟨?_, by cases d <;> rfl, by cases d <;> rfl, fun s e => by cases e⟩
  cases hb : bodyM (.tuple [.str "left", d]) with
  | false => rfl
  | true =>
    obtain ⟨p, hp, hbd⟩ := bodyM_decode hb
    have : ∃ (k : K1) (a : Part), p = .one k a ∧ d = a.data := by
      cases p with
      | one k a => injection hp with hp; injection hp with h1 hp; injection hp with h2 hp; exact ⟨k, a, rfl, h2⟩
      | num n => injection hp with hp; injection hp with h1 hp; injection h1 with h1; exact absurd h1 (by decide +kernel)
      | name n => injection hp with hp; injection hp with h1 hp; injection h1 with h1; exact absurd h1 (by decide +kernel)
      | fn n => injection hp with hp; injection hp with h1 hp; injection h1 with h1; exact absurd h1 (by decide +kernel)
      | two k a b => injection hp with hp; injection hp with h1 hp; injection hp with h2 hp; cases hp
      | whn a b c => injection hp with hp; injection hp with h1 hp; injection hp with h2 hp; cases hp
      | letp r a => injection hp with hp; injection hp with h1 hp; injection hp with h2 hp; cases hp
      | shut a => exact hbd.shape.elim
    obtain ⟨k, a, rfl, rfl⟩ := this
    have hd := hbd.deep
    have hz := hbd.size
    have hd' : 1 + a.deep ≤ 12 := hd
    have hz' : 1 + a.size ≤ 60 := hz
    have := bodyM_true (p := a) ⟨hbd.shape, by omega, by omega⟩
    rw [h.body] at this
    cases this
theorem nst_two {d : PyData} (h : Nst d) : Nst (.tuple [d, d]) := by
  refine ⟨?_, by cases d <;> rfl, ?_, fun s e => by cases e⟩
  · refine bodyM_no ?_
    cases d with
    | str s =>
      rcases h.str s rfl with rfl | rfl
      · decide +kernel
      · decide +kernel
    | _ => rfl
  · cases d with
    | tuple fs =>
      show (decide (fs.length ≤ 8) && (fs.all functionM && bodyM (.tuple fs))) = false
      rw [h.body, Bool.and_false, Bool.and_false]
    | _ => rfl
theorem nst_base : Nst .none ∧ Nst (.bool true) ∧ Nst (.int 5) ∧ Nst (.str "give") ∧ Nst (.tuple []) ∧ Nst (.list []) ∧ Nst (.tuple [.str "number"]) ∧ Nst (.str "?") :=
  ⟨⟨bodyM_no rfl, rfl, rfl, fun s e => by cases e⟩, ⟨bodyM_no rfl, rfl, rfl, fun s e => by cases e⟩, ⟨bodyM_no rfl, rfl, rfl, fun s e => by cases e⟩, ⟨bodyM_no rfl, rfl, rfl, fun s e => by cases e; exact .inl rfl⟩,
    ⟨bodyM_no rfl, rfl, rfl, fun s e => by cases e⟩, nst_lst [], nst_one _, ⟨bodyM_no rfl, rfl, rfl, fun s e => by cases e; exact .inr rfl⟩⟩
def spNested : Sp := fun vs H Q _ => ∃ (pen L : Addr), vs = [.ref pen] ∧ PenAt H pen L ∧ ∀ (v : V) (d : PyData) (H' : Hp), Gq H' v d → Nst d → PenAt H' pen L → Chg pen H H' → Q v H'
theorem pure_nested {K : PySem.W.Frag} {w : World} : PureOk 1 spNested (t_law_nested K w spDraw) 3 := by
  refine ⟨fun vs H Q E ⟨_, _, e, _⟩ => by rw [e]; rfl, ?_⟩
  rintro vs H Q E ⟨pen, L, rfl, hP, q⟩
  show t_law_nested K w _ _ [some (.ref pen), none, none] H
  unfold t_law_nested
  walk_at "gg"
  rename_i a1 H1 n1 e1 s1 a2 H2 n2 e2 s2 a3 H3 n3 e3 s3 a4 H4 n4 e4 s4
  refine g_draw (L := L) (by walk_at "pen") (by decide) (by decide) fun k H5 k0 k1 hP5 c5 => ?_
  have hne : a4 ≠ pen := by walk_at "ne"
  have e45 := c5 _ _ hne e4
  have hlt : k.toNat < 8 := by omega
  obtain ⟨v, d, hv, tv, hd⟩ : ∃ v d, [V.non, V.bl true, V.int 5, V.str "give", V.ref a1, V.ref a2, V.ref a3, V.str "?"][k.toNat]? = some v ∧ Gq H5 v d ∧ Nst d := by
    obtain ⟨b1, b2, b3, b4, b5, b6, b7, b8⟩ := nst_base
    have hk : k.toNat = 0 ∨ k.toNat = 1 ∨ k.toNat = 2 ∨ k.toNat = 3 ∨ k.toNat = 4 ∨ k.toNat = 5 ∨ k.toNat = 6 ∨ k.toNat = 7 := by omega
    rcases hk with h | h | h | h | h | h | h | h <;> rw [h]
    · exact ⟨_, _, rfl, .non, b1⟩
    · exact ⟨_, _, rfl, .bl _, b2⟩
    · exact ⟨_, _, rfl, .int _, b3⟩
    · exact ⟨_, _, rfl, .str _ (by decide +kernel), b4⟩
    · have e15 : H5 a1 = some (.tup []) := by walk_at "at"
      exact ⟨_, _, rfl, .tup e15 .nil, b5⟩
    · exact ⟨_, .list [], rfl, by walk_at "gq", b6⟩
    · exact ⟨_, .tuple [.str "number"], rfl, by walk_at "gq", b7⟩
    · exact ⟨_, _, rfl, .str _ (by decide +kernel), b8⟩
  have hch : Chg pen H H5 := (Chg.same (s1.trans (s2.trans (s3.trans s4)))).trans c5
  refine g_ixL (.of e45) (v := v) (atI_of k0 hv) ?_
  clear e45 hne e1 e2 e3 e4 n1 n2 n3 n4 s1 s2 s3 s4 c5 hv
  walk_at "gg"
  refine g_draw (L := L) hP5 (by decide) (by decide) fun m H6 m0 m1 hP6 c6 => ?_
  refine g_isrng (by omega) (by omega) ?_
  refine for_any m.toNat (fun i σ H' => ∃ (v : V) (d : PyData) (x2 : Option V), σ = [some (.ref pen), some v, x2] ∧ Gq H' v d ∧ Nst d ∧ PenAt H' pen L ∧ Chg pen H H') ⟨v, d, none, rfl, tv.to (hP5.tl hP6 c6), hd, hP6, hch.trans c6⟩ (fun i σ H' hi _ => hi) (fun σ H' _ => Nat.le_refl _) ?_ ?_
  · clear tv hd hP5 hP6 hch c6 hP
    rintro i x σ _ H7 hi ⟨v, d, x2, rfl, tv, hd, hP7, c7⟩ ⟨rfl, rfl⟩
    walk_at "gg"
    rename_i b1 H8 n8 e8 s8 b2 H9 n9 e9 s9
    refine g_cutA (fun u H' => ∃ d', Gq H' (.ref u) d' ∧ Nst d' ∧ Same H9 H') (B := ?B) (fun rest => ?f) ?b
    case f =>
      refine g_ite (fun _ => ?_) (fun _ => ?_)
      · refine g_tup (g_cons (g_var (v := v) rfl (g_cons (g_var (v := v) rfl (g_nil (g_len (by show 2 ≤ 16777216; decide) (New.mk fun b3 H10 n10 e10 s10 => ?_)))))))
        exact rest _ _ ⟨_, .tup e10 (.cons (tv.to (by walk_at "tl")) (.one (tv.to (by walk_at "tl")))), nst_two hd, s10⟩
      · refine g_tup (g_cons (g_var (v := v) rfl (g_nil (g_len (by show 1 ≤ 16777216; decide) (New.mk fun b3 H10 n10 e10 s10 => ?_)))))
        exact rest _ _ ⟨_, .tup e10 (.one (tv.to (by walk_at "tl"))), nst_one _, s10⟩
    rintro u H10 ⟨d', tu, hd', s10⟩
    walk_at "gg"
    rename_i b4 H11 n11 e11 s11 b5 H12 n12 e12 s12
    refine g_draw (L := L) (by walk_at "pen") (by decide) (by decide) fun k H13 k0 k1 hP13 c13 => ?_
    have hne : b5 ≠ pen := by walk_at "ne"
    have e13 := c13 _ _ hne e12
    obtain ⟨u2, d2, hu2, tu2, hd2⟩ : ∃ v' d', [V.ref b1, V.ref b2, V.ref u, V.ref b4][k.toNat]? = some v' ∧ Gq H13 v' d' ∧ Nst d' := by
      have hk : k.toNat = 0 ∨ k.toNat = 1 ∨ k.toNat = 2 ∨ k.toNat = 3 := by omega
      have t13 : Gq H13 v d := tv.to (by walk_at "tl")
      have tu13 : Gq H13 (.ref u) d' := tu.to (by walk_at "tl")
      have e18 : H13 b1 = some (.tup [v]) := by walk_at "at"
      have e29 : H13 b2 = some (.lst [v]) := by walk_at "at"
      have e41 : H13 b4 = some (.tup [.str "left", v]) := by walk_at "at"
      rcases hk with h | h | h | h <;> rw [h]
      · exact ⟨_, _, rfl, .tup e18 (.one t13), nst_one d⟩
      · exact ⟨_, .list [d], rfl, .lst e29, nst_lst _⟩
      · exact ⟨_, _, rfl, tu13, hd'⟩
      · exact ⟨_, _, rfl, .tup e41 (.cons (.str _ (by decide +kernel)) (.one t13)), nst_left hd⟩
    refine g_ixL (.of e13) (v := u2) (atI_of k0 hu2) ?_
    walk_at "gg"
    exact ⟨u2, d2, _, rfl, tu2, hd2, hP13, (c7.trans (Chg.same (s8.trans (s9.trans (s10.trans (s11.trans s12)))))).trans c13⟩
  · rintro σ H7 ⟨v, d, x2, rfl, tv, hd, hP7, c7⟩
    walk_at "gg"
    exact q v d H7 tv hd hP7 c7

/-! ### k06: things that are no programs -/
theorem built_body {f b : PyData} (h : bodyM b = false) : builtM (.tuple [f, b]) = false := by
  cases f with
  | tuple fs =>
    show (decide (fs.length ≤ 8) && (fs.all functionM && bodyM b)) = false
    rw [h, Bool.and_false, Bool.and_false]
  | _ => rfl
theorem built_fn {fs : List PyData} {d b : PyData} (hm : d ∈ fs) (h : functionM d = false) : builtM (.tuple [.tuple fs, b]) = false := by
  show (decide (fs.length ≤ 8) && (fs.all functionM && bodyM b)) = false
  have : fs.all functionM = false := by
    rw [List.all_eq_false]
    exact ⟨d, hm, by rw [h]; decide⟩
  rw [this, Bool.false_and, Bool.and_false]
theorem built_part {p : Part} {b : PyData} : builtM (.tuple [p.data, b]) = false := by
  cases p with
  | num n => exact built_fn (d := .str "number") List.mem_cons_self rfl
  | name n => exact built_fn (d := .str "name") List.mem_cons_self rfl
  | fn n => exact built_fn (d := .str "fun") List.mem_cons_self rfl
  | one k a => exact built_fn (d := .str k.word) List.mem_cons_self rfl
  | two k a b => exact built_fn (d := .str k.word) List.mem_cons_self rfl
  | whn a b c => exact built_fn (d := .str "when") List.mem_cons_self rfl
  | letp r a => exact built_fn (d := .str "let") List.mem_cons_self rfl
  | shut a => exact built_fn (d := .str "shut") List.mem_cons_self rfl
theorem built_20 {F : List PyData} {p : Part} {D : PyData} {ds ds2 ds3 ds4 : List PyData} (hD : D = .tuple [.tuple F, p.data]) : ∀ d ∈ ([.none, .bool true, .bool false, .int 0, .int 7, .str "", .str "program", .tuple [], .list ds, .tuple [.tuple []], .tuple [.tuple F], .tuple [.tuple F, p.data, p.data],
    .list ds2, .tuple [.list ds3, p.data], .tuple [.none, p.data], .tuple [.tuple F, .none], .tuple [p.data, .tuple F], .tuple [.tuple F, D], .tuple [.tuple [D], p.data], .tuple [.str "functions", p.data], .tuple [.tuple F, .list ds4]] : List PyData), builtM d = false := by
  subst hD
  intro d hd
  simp only [List.mem_cons, List.not_mem_nil, or_false] at hd
  rcases hd with h | h | h | h | h | h | h | h | h | h | h | h | h | h | h | h | h | h | h | h | h
  all_goals (try (subst h; first | rfl | exact built_body (bodyM_no rfl) | exact built_part | exact built_fn List.mem_cons_self (by cases p <;> rfl)))
theorem fn_11 {nm : Str} {T B : PyData} {ths : List PyData} {ds ds2 : List PyData} (hT : T = .tuple ths) : ∀ d ∈ ([.list ds, .tuple [.str nm, .list ds2, B], .tuple [.str nm, .none, B], .tuple [.str nm, T], .tuple [T, .str nm, B], .tuple [.str nm, T, B, B], .none, .str nm, .tuple [.none, T, B], .tuple [.str nm, .str "", B], .tuple [.str nm, T, .none]] : List PyData), functionM d = false := by
  subst hT
  intro d hd
  simp only [List.mem_cons, List.not_mem_nil, or_false] at hd
  rcases hd with h | h | h | h | h | h | h | h | h | h | h
  all_goals (try (subst h; rfl))
  subst h
  show (nameM (.str nm) && (decide (ths.length ≤ 4) && (ths.all nameM && bodyM .none))) = false
  rw [bodyM_no rfl, Bool.and_false, Bool.and_false, Bool.and_false]
theorem g_cutAA {A : Prop} (C : Addr → Addr → Hp → Prop) {B : Addr → Addr → Hp → Prop} (f : (∀ l o H', C l o H' → B l o H') → A) (b : ∀ l o H', C l o H' → B l o H') : A := f b
def spThings06 : Sp := fun vs H Q _ => ∃ (pen L : Addr) (v : V) (P : Prog), vs = [.ref pen, v] ∧ PenAt H pen L ∧ Tp H v P.data ∧ P.fine ∧
  ∀ (l : Addr) (us : List V) (ds : List PyData) (H' : Hp), H l = none → H' l = some (.lst us) → Gqs H' us ds → (∀ d ∈ ds, builtM d = false) → us.length ≤ 1000 → PenAt H' pen L → Chg pen H H' → Q (.ref l) H'
theorem pure_things06 {K : PySem.W.Frag} {w : World} : PureOk 2 spThings06 (t_law_things K w spNested spDraw) 11 := by
  refine ⟨fun vs H Q E ⟨_, _, _, _, e, _⟩ => by rw [e]; rfl, ?_⟩
  rintro vs H Q E ⟨pen, L, v, P, rfl, hP, tP, hfine, q⟩
  show t_law_things K w _ _ _ [some (.ref pen), some v, none, none, none, none, none, none, none, none, none] H
  unfold t_law_things
  have hbd := hfine.bd
  have gP := tP.gq hbd.sh
  obtain ⟨pa, fa, u, vs, rfl, epa, efa, tfs, tas⟩ := tP.prog
  have gfs := tfs.gq hbd.shs
  have gfa : Gq H (.ref fa) (.tuple (P.fs.map Fn1.data)) := .tup efa gfs
  have gu := tas.gq hbd.asked.shape.sh
  obtain ⟨ua, uas, rfl, eua, _⟩ := tas.part
  have hvl : vs.length = P.fs.length := by rw [tfs.length, List.length_map]
  have hfew := hfine.few
  clear tP
  have nofs : P.fs ≠ [] → 0 < P.fs.length := fun h => List.length_pos_iff.mpr h
  refine g_cutA (fun l1 H1 => ∃ us ds, H1 l1 = some (.lst us) ∧ Gqs H1 us ds ∧ (∀ d ∈ ds, builtM d = false) ∧ us.length = 21 ∧ l1 ≠ pen ∧ H l1 = none ∧ PenAt H1 pen L ∧ Same H H1) (B := ?B) (fun rest => ?f) ?b
  case f =>
    walk_at "gg"
    rename_i l1 H1 n1 e1 s1
    simp only [List.cons_append, List.nil_append] at e1
    refine rest l1 H1 ⟨_, _, e1, by walk_at "gqs", built_20 (F := P.fs.map Fn1.data) (p := P.asked) (D := P.data) (ds := []) (ds2 := []) (ds3 := []) (ds4 := []) rfl, rfl, by walk_at "ne", by walk_at "free", by walk_at "pen", by walk_at "same"⟩
  rintro l1 H1 ⟨us1, ds1, e1, g1, hd1, hl1, ne1, nl1, hP1, s01⟩
  have c01 : Chg pen H H1 := Chg.same s01
  have epa1 := s01 _ _ epa
  have efa1 := s01 _ _ efa
  have gfa1 := gfa.mono (Same.tl s01)
  have gu1 := gu.mono (Same.tl s01)
  have tfs1 := tfs.mono (Same.tk s01)
  clear epa efa gfa gu gP eua tas tfs gfs s01
  refine ⟨pen, L, rfl, hP1, fun v2 d2 H2 t2 hd2 hP2 c2 => ?_⟩
  walk_at "gg"
  refine ⟨pen, L, rfl, hP2, fun v3 d3 H3 t3 hd3 hP3 c3 => ?_⟩
  walk_at "gg"
  rename_i a4 H4 n4 e4 s4
  refine ⟨pen, L, rfl, by walk_at "pen", fun v5 d5 H5 t5 hd5 hP5 c5 => ?_⟩
  have hP4 : PenAt H4 pen L := by walk_at "pen"
  refine g_cutAA (fun l6 o6 H6 => ∃ us ds, H6 l6 = some (.lst us) ∧ Gqs H6 us ds ∧ (∀ d ∈ ds, builtM d = false) ∧ us.length = 24 ∧ l6 ≠ pen ∧ H l6 = none ∧ PenAt H6 pen L ∧ Chg pen H H6 ∧ H6 pa = some (.tup [.ref fa, .ref ua]) ∧ H6 fa = some (.tup vs) ∧ Gq H6 (.ref fa) (.tuple (P.fs.map Fn1.data)) ∧ Gq H6 (.ref ua) P.asked.data ∧ Tps H6 vs (P.fs.map Fn1.data) ∧ H6 o6 = some (.tup [])) (B := ?B2) (fun rest => ?f2) ?b2
  case f2 =>
    have e15 : H5 l1 = some (.lst us1) := by walk_at "at"
    have nl5 : l1 ≠ pen := ne1
    walk_at "gg"
    rename_i a6 H6 n6 e6 s6 a7 H7 n7 e7 s7 a8 H8 n8 e8 s8 a9 H9 n9 e9 s9 o6 H10 n10 e10 s10
    have g5 : Gqs H9 us1 ds1 := by walk_at "gqs"
    have gf5 : Gq H9 (.ref fa) (.tuple (P.fs.map Fn1.data)) := by walk_at "gq"
    have gu5 : Gq H9 (.ref ua) P.asked.data := by walk_at "gq"
    have g9 : Gqs H9 (us1 ++ [v2, .ref a4, .ref a7]) (ds1 ++ [d2, .tuple [.tuple (P.fs.map Fn1.data), d3], .tuple [.tuple [d5], P.asked.data]]) := g5.append (by walk_at "gqs")
    have tk : Tl H1 H10 := by walk_at "tl"
    refine rest a9 o6 H10 ⟨_, _, s10 _ _ e9, g9.mono (Same.tl s10), ?_, by rw [List.length_append, hl1]; rfl, by walk_at "ne", by walk_at "free", by walk_at "pen", ?_, tk.tup _ _ epa1, tk.tup _ _ efa1, gfa1.mono tk, gu1.mono tk, tfs1.mono tk.tup, e10⟩
    · intro d hd
      rcases List.mem_append.mp hd with hd | hd
      · exact hd1 d hd
      · simp only [List.mem_cons, List.not_mem_nil, or_false] at hd
        rcases hd with rfl | rfl | rfl
        · exact hd2.built
        · exact built_body hd3.body
        · exact built_fn List.mem_cons_self hd5.fn
    · exact c01.trans (c2.trans (c3.trans ((Chg.same s4).trans (c5.trans (Chg.same (s6.trans (s7.trans (s8.trans (s9.trans s10)))))))))
  rintro l6 o6 H6 ⟨us6, ds6, e6, g6, hd6, hl6, ne6, nl6, hP6, c06, epa6, efa6, gfa6, gu6, tfs6, eo6⟩
  clear hP1 hP2 hP3 hP4 hP5 epa1 efa1 gfa1 gu1 tfs1 c01 c2 c3 c5 s4 e1 e4 n4 t2 t3 t5 hd2 hd3 hd5 g1 hd1 hl1 ne1 nl1
  refine g_neD (d := .tuple (P.fs.map Fn1.data)) (e := .tuple []) (Tp.tup efa6 tfs6).dp (Tp.tup eo6 .nil).dp (shaped_fs hfine) (by decide +kernel) ?_
  have heq : PyData.eqv (.tuple (P.fs.map Fn1.data)) (.tuple []) = (P.fs.map Fn1.data).isEmpty := by cases P.fs.map Fn1.data <;> rfl
  rw [heq]
  walk_at "gg"
  by_cases hnil : P.fs = []
  · refine g_F (by rw [hnil]; rfl) ?_
    walk_at "gg"
    exact q l6 us6 ds6 H6 nl6 e6 g6 hd6 (by omega) hP6 c06
  have hlen : 0 < vs.length := by rw [hvl]; exact nofs hnil
  refine g_T (by cases hfs : P.fs with | nil => exact absurd hfs hnil | cons _ _ => rfl) ?_
  walk_at "gg"
  refine g_draw (L := L) hP6 (by omega) (by omega) fun k H7 k0 k1 hP7 c7 => ?_
  have tl67 : Tl H6 H7 := hP6.tl hP7 c7
  have efa7 := tl67.tup _ _ efa6
  have gfa7 := gfa6.mono tl67
  have gu7 := gu6.mono tl67
  have tfs7 := tfs6.mono tl67.tup
  have e7 := c7 _ _ ne6 e6
  have g7 := g6.mono tl67
  have c07 := c06.trans c7
  clear c7 tl67 efa6 gfa6 gu6 tfs6 e6 g6 c06 hP6 epa6 eo6 heq
  obtain ⟨kn, rfl⟩ := Int.eq_ofNat_of_zero_le k0
  have hk : kn < vs.length := by omega
  obtain ⟨x, hx⟩ : ∃ x, vs[kn]? = some x := ⟨_, List.getElem?_eq_getElem hk⟩
  obtain ⟨d, hdd, td⟩ := tfs7.get hx
  rw [List.getElem?_map] at hdd
  obtain ⟨fn, hfn, rfl⟩ := Option.map_eq_some_iff.mp hdd
  have hfb := hbd.fs fn (List.mem_of_getElem? hfn)
  obtain ⟨a8, b8, u8, rfl, ea8, eb8, tu8⟩ := td.fn1
  have gn8 : Gq H7 (.str fn.name) (.str fn.name) := .str _ (by have := hfb.nm.2.1; omega)
  have gb8 : Gq H7 (.ref b8) (.tuple (fn.things.map PyData.str)) := .tup eb8 (Tps.gq (Tps.strs _) (shsB_all fun d hd => by obtain ⟨s, hs, rfl⟩ := List.mem_map.mp hd; exact sh_name (hfb.th s hs)))
  have gu8 := tu8.gq hfb.body.shape.sh
  have gs7 : Gqs H7 vs (P.fs.map Fn1.data) := tfs7.gq hbd.shs
  clear td tu8 tfs7 hdd
  walk_at "gg"
  refine g_ixT (.of efa7) (v := .ref a8) (atI_of k0 (by rw [Int.toNat_natCast]; exact hx)) ?_
  walk_at "gg"
  refine g_ixT (.of efa7) (v := .ref a8) (atI_of k0 (by rw [Int.toNat_natCast]; exact hx)) ?_
  refine g_cutA (fun l8 H8 => ∃ us ds, H8 l8 = some (.lst us) ∧ Gqs H8 us ds ∧ (∀ d ∈ ds, functionM d = false) ∧ us.length = 11 ∧ l8 ≠ pen ∧ H7 l8 = none ∧ Same H7 H8) (B := ?B3) (fun rest => ?f3) ?b3
  case f3 =>
    walk_at "gg"
    rename_i l8 H8 n8 e8 s8
    simp only [List.cons_append, List.nil_append] at e8
    exact rest l8 H8 ⟨_, _, e8, by walk_at "gqs", fn_11 (nm := fn.name) (T := .tuple (fn.things.map PyData.str)) (B := fn.body.data) (ths := fn.things.map PyData.str) (ds := []) (ds2 := []) rfl, rfl, by walk_at "ne", by walk_at "free", by walk_at "same"⟩
  rintro l8 H8 ⟨us8, ds8, e8, g8, hd8, hl8, ne8, nl8, s78⟩
  have ne68 : l6 ≠ l8 := ne_of_none e7 nl8
  have e78 := s78 _ _ e7
  have g78 := g7.mono (Same.tl s78)
  have efa8 := s78 _ _ efa7
  have gs8 := gs7.mono (Same.tl s78)
  have gu9 := gu7.mono (Same.tl s78)
  have hP8 := hP7.same s78
  have c08 : Chg pen H H8 := c07.trans (Chg.same s78)
  have neL : L ≠ l6 := by
    rintro rfl
    have c := c08
    obtain ⟨_, _, _, _, hL, _⟩ := hP
    rw [nl6] at hL; cases hL
  clear efa7 gfa7 gu7 e7 g7 c07 hP7 s78 ea8 eb8 gn8 gb8 gu8 gs7 nl8
  refine g_seqL ?_
  walk_at "gg"
  refine for_L (xs := us8) (fun i σ H' => ∃ x10 us ds, σ = [some (.ref pen), some (.ref pa), some (.ref fa), some (.ref ua), some (.ref l6), some (.int kn), some (.str fn.name), some (.ref b8), some u8, some (.ref l8), x10] ∧ H' l6 = some (.lst us) ∧ Gqs H' us ds ∧ (∀ d ∈ ds, builtM d = false) ∧ us.length = 24 + i ∧ Chg l6 H8 H')
    (fun i σ H' ⟨_, _, _, _, _, _, _, _, c⟩ => c _ _ ne68.symm e8) ⟨_, _, _, rfl, e78, g78, hd6, hl6, Chg.refl⟩ ?_ ?_
  · rintro i x σ H9 hx9 ⟨x10, us, ds, rfl, e9, g9, hd9, hl9, c9⟩
    have tl89 : Tl H8 H9 := c9.tl e78 e9
    obtain ⟨d9, hdd9, tx9⟩ := (g8.mono tl89).get hx9
    have hi := (List.getElem?_eq_some_iff.mp hx9).1
    have efa9 := tl89.tup _ _ efa8
    have gs9 := gs8.mono tl89
    have gu9' := gu9.mono tl89
    walk_at "gg"
    refine g_slTo efa9 hk fun c1 H10 e10 s10 => ?_
    walk_at "gg"
    rename_i o11 H11 n11 e11 s11
    refine g_addTT (s11 _ _ e10) e11 (by rw [List.length_take]; show _ + 1 ≤ 16777216; omega) fun c2 H12 e12 s12 => ?_
    walk_at "gg"
    refine g_slFrom (s12 _ _ (s11 _ _ (s10 _ _ efa9))) hk fun c3 H13 e13 s13 => ?_
    refine g_addTT (s13 _ _ e12) e13 (by rw [List.length_append, List.length_take, List.length_drop]; show _ + 1 + _ ≤ 16777216; omega) fun c4 H14 e14 s14 => ?_
    have s914 : Same H9 H14 := s10.trans (s11.trans (s12.trans (s13.trans s14)))
    have gs14 := gs9.mono (Same.tl s914)
    have gx14 := tx9.mono (Same.tl s914)
    have gu14 := gu9'.mono (Same.tl s914)
    have e914 := s914 _ _ e9
    have g914 := g9.mono (Same.tl s914)
    have g14 : Gq H14 (.ref c4) (.tuple (((P.fs.map Fn1.data).take kn ++ [d9]) ++ (P.fs.map Fn1.data).drop (kn + 1))) := .tup e14 (((gs14.take kn).append (.one gx14)).append (gs14.drop (kn + 1)))
    clear e10 e11 e12 e13 e14 s10 s11 s12 s13 s14 n11 gs14 gx14 efa9 gs9 gu9' tx9 e9 g9
    walk_at "gg"
    rename_i c15 H15 n15 e15 s15
    refine g_append (s15 _ _ e914) (by show _ < 16777216; omega) ?_
    walk_at "gg"
    rename_i H16 e16 c16
    have tl : Tl H15 H16 := c16.tl (s15 _ _ e914) e16
    refine ⟨_, _, ds ++ [.tuple [.tuple (((P.fs.map Fn1.data).take kn ++ [d9]) ++ (P.fs.map Fn1.data).drop (kn + 1)), P.asked.data]], rfl, e16, (g914.mono ((Same.tl s15).trans tl)).append (.one ((Gq.tup e15 (.cons (g14.mono (Same.tl s15)) (.one (gu14.mono (Same.tl s15))))).mono tl)), fun d hd => ?_, by rw [List.length_append, hl9]; rfl, (c9.trans (Chg.same s914)).trans ((Chg.same s15).trans c16)⟩
    rcases List.mem_append.mp hd with hd | hd
    · exact hd9 d hd
    · rw [List.mem_singleton.mp hd]
      exact built_fn (d := d9) (by simp) (hd8 d9 (List.mem_of_getElem? hdd9))
  · rintro σ H9 ⟨x10, us, ds, rfl, e9, g9, hd9, hl9, c9⟩
    walk_at "gg"
    exact q l6 us ds H9 nl6 e9 g9 hd9 (by omega) (hP8.chg c9 ne6.symm neL) (fun b o n e => c9 b o (fun z => by rw [z, nl6] at e; cases e) (c08 b o n e))

/-! ### k06: the law -/
theorem SqL.to' {K : PySem.W.Frag} {H H' : Hp} {a : Addr} {xs : List V} (s : Same H H') (h : SqL K H a xs) : SqL K H' a xs := h.elim (fun h => .inl (h.elim (fun h => .inl (s _ _ h)) fun ⟨o, h⟩ => .inr ⟨o, s _ _ h⟩)) .inr
theorem pure_law {K : PySem.W.Frag} {w : World} : PureOk 1 (spLaw K) (t_law K w (spPen K) spProgram spThings06 spToldX (spLookedX K)) 5 := by
  refine ⟨fun vs H Q E ⟨_, _, e, _⟩ => by rw [e]; rfl, ?_⟩
  rintro vs H Q E ⟨sa, ns, rfl, hS, hl, q⟩
  show t_law K w _ _ _ _ _ _ [some (.ref sa), none, none, none, none] H
  unfold t_law
  walk_at "gg"
  refine ⟨sa, ns, rfl, hS, hl, fun pen L H1 npen nL hP1 s1 => ?_⟩
  walk_at "gg"
  refine g_lenL (SqL.to' s1 hS) ?_
  walk_at "gg"
  refine g_isrng (by omega) (by omega) ?_
  refine for_any (max 1 (min 6 ((ns.map V.int).length : Int))).toNat (fun i σ H' => ∃ x2 x3 x4, σ = [some (.ref sa), some (.ref pen), x2, x3, x4] ∧ PenAt H' pen L) ⟨_, _, _, rfl, hP1⟩ (fun i σ H' hi _ => hi) (fun σ H' _ => Nat.le_refl _) ?_ ?_
  · clear hP1 s1 hS
    rintro i x σ _ H2 hi ⟨x2, x3, x4, rfl, hP2⟩ ⟨rfl, rfl⟩
    walk_at "gg"
    refine ⟨pen, L, rfl, hP2, fun v P H3 tP hfine hP3 c3 => ?_⟩
    walk_at "gg"
    refine g_seqL ?_
    walk_at "gg"
    refine ⟨pen, L, v, P, rfl, hP3, tP, hfine, fun l us ds H4 nl el gds hd hlen hP4 c4 => ?_⟩
    have hbd := hfine.bd
    have tP4 : Tp H4 v P.data := tP.mono (hP3.tl hP4 c4).tup
    clear hP3 c4 hP2 c3 tP
    refine g_isL (.of el) ?_
    refine for_L (xs := us) (fun i σ H' => ∃ x2 x4, σ = [some (.ref sa), some (.ref pen), x2, some v, x4] ∧ Same H4 H') (fun i σ H' ⟨_, _, _, s⟩ => s _ _ el) ⟨_, _, rfl, .refl _⟩ ?_ ?_
    · rintro j y σ H5 hy ⟨x2, x4, rfl, s5⟩
      obtain ⟨d, hdd, ty⟩ := (gds.mono (Same.tl s5)).get hy
      have hno := hd d (List.mem_of_getElem? hdd)
      walk_at "gg"
      refine ⟨y, d, rfl, ty, fun _ t H6 s6 e6 => ?_, fun hb => by rw [hno] at hb; cases hb⟩
      walk_at "gg"
      rename_i t7 H7 n7 e7 s7
      have t1 : Tp H7 (.ref t) (.tuple [.str "program", .str ""]) := .tup (s7 _ _ e6) (.cons (.str _) (.one (.str _)))
      have t2 : Tp H7 (.ref t7) (.tuple [.str "program", .str ""]) := .tup e7 (.cons (.str _) (.one (.str _)))
      refine g_neLk (Tp.likeR (n := 150) t1 t2 (by decide +kernel)) (Nat.le_refl 150) ?_
      walk_at "gg"
      exact ⟨_, _, rfl, s5.trans (s6.trans s7)⟩
    · rintro σ H5 ⟨x2, x4, rfl, s5⟩
      have t5 := tP4.mono (Same.tk s5)
      walk_at "gg"
      refine ⟨v, P.data, rfl, t5.gq hbd.sh, fun hb => (by rw [builtM_true hbd] at hb; cases hb), fun _ => ⟨P, rfl, hbd, fun _ H6 s6 => ?_, fun c x hx => (by rw [hfine.look] at hx; cases hx)⟩⟩
      walk_at "gg"
      refine g_neLk (prog_like (t5.mono (Same.tk s6)) hbd) (Nat.le_refl 150) ?_
      walk_at "gg"
      exact ⟨_, _, _, rfl, hP4.same (s5.trans s6)⟩
  · rintro σ H2 ⟨x2, x3, x4, rfl, hP2⟩
    walk_at "gg"
    exact q H2

/-! ### the row -/
def topS (i : Nat) : Stmt := PySem.Challenge.pw_lazywebs_k06_what_is_no_program.main.body.getD i (.Pass ⟨0, 0, 0, 0⟩)
structure TX (w : World) (K : PySem.W.Frag) (mg : Str → Option Value) : Prop where
  errs : Errs K
  g_Twice : mg "Twice" = some (.ref (He.ga K "Twice"))
  g_Hidden : mg "Hidden" = some (.ref (He.ga K "Hidden"))
  g_Stranger : mg "Stranger" = some (.ref (He.ga K "Stranger"))
  g_NoProgram : mg "NoProgram" = some (.ref (He.ga K "NoProgram"))
  g_LazyError : mg "LazyError" = some (.ref (He.ga K "LazyError"))
  g_NoRows : mg "NoRows" = some (.ref (He.ga K "NoRows"))
  g_More : mg "More" = some (.ref (He.ga K "More"))
  g_NoRow : mg "NoRow" = some (.ref (He.ga K "NoRow"))
  g_NoText : mg "NoText" = some (.ref (He.ga K "NoText"))
  d_Twice___init__ : ∃ fd, FunD K "__init__" "Twice.__init__" (defArgs (inClass (topS 3) 0)) (defBody (inClass (topS 3) 0)) (defScope (inClass (topS 3) 0)) [] [] (He.ma K (He.ga K "Twice") "__init__") fd
  d_Hidden___init__ : ∃ fd, FunD K "__init__" "Hidden.__init__" (defArgs (inClass (topS 4) 0)) (defBody (inClass (topS 4) 0)) (defScope (inClass (topS 4) 0)) [] [] (He.ma K (He.ga K "Hidden") "__init__") fd
  d_Stranger___init__ : ∃ fd, FunD K "__init__" "Stranger.__init__" (defArgs (inClass (topS 5) 0)) (defBody (inClass (topS 5) 0)) (defScope (inClass (topS 5) 0)) [] [] (He.ma K (He.ga K "Stranger") "__init__") fd
  d_is_name : ∃ fd, FunD K "is_name" "is_name" (defArgs (topS 13)) (defBody (topS 13)) (defScope (topS 13)) [] [] (He.ga K "is_name") fd
  f_is_name : mg "is_name" = some (.ref (He.ga K "is_name"))
  d_is_whole : ∃ fd, FunD K "is_whole" "is_whole" (defArgs (topS 14)) (defBody (topS 14)) (defScope (topS 14)) [] [] (He.ga K "is_whole") fd
  f_is_whole : mg "is_whole" = some (.ref (He.ga K "is_whole"))
  d_is_small : ∃ fd, FunD K "is_small" "is_small" (defArgs (topS 15)) (defBody (topS 15)) (defScope (topS 15)) [] [] (He.ga K "is_small") fd
  f_is_small : mg "is_small" = some (.ref (He.ga K "is_small"))
  d_within : ∃ fd, FunD K "within" "within" (defArgs (topS 16)) (defBody (topS 16)) (defScope (topS 16)) [] [] (He.ga K "within") fd
  f_within : mg "within" = some (.ref (He.ga K "within"))
  d_in_order : ∃ fd, FunD K "in_order" "in_order" (defArgs (topS 17)) (defBody (topS 17)) (defScope (topS 17)) [] [] (He.ga K "in_order") fd
  f_in_order : mg "in_order" = some (.ref (He.ga K "in_order"))
  d_is_row : ∃ fd, FunD K "is_row" "is_row" (defArgs (topS 24)) (defBody (topS 24)) (defScope (topS 24)) [] [] (He.ga K "is_row") fd
  f_is_row : mg "is_row" = some (.ref (He.ga K "is_row"))
  d_are_rows : ∃ fd, FunD K "are_rows" "are_rows" (defArgs (topS 25)) (defBody (topS 25)) (defScope (topS 25)) [] [] (He.ga K "are_rows") fd
  f_are_rows : mg "are_rows" = some (.ref (He.ga K "are_rows"))
  d_parts_of : ∃ fd, FunD K "parts_of" "parts_of" (defArgs (topS 26)) (defBody (topS 26)) (defScope (topS 26)) [] [] (He.ga K "parts_of") fd
  f_parts_of : mg "parts_of" = some (.ref (He.ga K "parts_of"))
  d_is_body : ∃ fd, FunD K "is_body" "is_body" (defArgs (topS 27)) (defBody (topS 27)) (defScope (topS 27)) [] [] (He.ga K "is_body") fd
  f_is_body : mg "is_body" = some (.ref (He.ga K "is_body"))
  d_is_function : ∃ fd, FunD K "is_function" "is_function" (defArgs (topS 28)) (defBody (topS 28)) (defScope (topS 28)) [] [] (He.ga K "is_function") fd
  f_is_function : mg "is_function" = some (.ref (He.ga K "is_function"))
  d_is_built : ∃ fd, FunD K "is_built" "is_built" (defArgs (topS 29)) (defBody (topS 29)) (defScope (topS 29)) [] [] (He.ga K "is_built") fd
  f_is_built : mg "is_built" = some (.ref (He.ga K "is_built"))
  d_row_names : ∃ fd, FunD K "row_names" "row_names" (defArgs (topS 30)) (defBody (topS 30)) (defScope (topS 30)) [] [] (He.ga K "row_names") fd
  f_row_names : mg "row_names" = some (.ref (He.ga K "row_names"))
  d_look_unlike : ∃ fd, FunD K "look_unlike" "look_unlike" (defArgs (topS 31)) (defBody (topS 31)) (defScope (topS 31)) [] [] (He.ga K "look_unlike") fd
  f_look_unlike : mg "look_unlike" = some (.ref (He.ga K "look_unlike"))
  d_look_named : ∃ fd, FunD K "look_named" "look_named" (defArgs (topS 32)) (defBody (topS 32)) (defScope (topS 32)) [] [] (He.ga K "look_named") fd
  f_look_named : mg "look_named" = some (.ref (He.ga K "look_named"))
  d_looked : ∃ fd, FunD K "looked" "looked" (defArgs (topS 33)) (defBody (topS 33)) (defScope (topS 33)) [] [] (He.ga K "looked") fd
  f_looked : mg "looked" = some (.ref (He.ga K "looked"))
  d_law_pen : ∃ fd, FunD K "_law_pen" "_law_pen" (defArgs (topS 35)) (defBody (topS 35)) (defScope (topS 35)) [] [] (He.ga K "_law_pen") fd
  f_law_pen : mg "_law_pen" = some (.ref (He.ga K "_law_pen"))
  d_law_draw : ∃ fd, FunD K "_law_draw" "_law_draw" (defArgs (topS 36)) (defBody (topS 36)) (defScope (topS 36)) [] [] (He.ga K "_law_draw") fd
  f_law_draw : mg "_law_draw" = some (.ref (He.ga K "_law_draw"))
  d_law_names : ∃ fd, FunD K "_law_names" "_law_names" (defArgs (topS 37)) (defBody (topS 37)) (defScope (topS 37)) [] [] (He.ga K "_law_names") fd
  f_law_names : mg "_law_names" = some (.ref (He.ga K "_law_names"))
  d_law_number : ∃ fd, FunD K "_law_number" "_law_number" (defArgs (topS 38)) (defBody (topS 38)) (defScope (topS 38)) [] [] (He.ga K "_law_number") fd
  f_law_number : mg "_law_number" = some (.ref (He.ga K "_law_number"))
  d_law_leaf : ∃ fd, FunD K "_law_leaf" "_law_leaf" (defArgs (topS 39)) (defBody (topS 39)) (defScope (topS 39)) [] [] (He.ga K "_law_leaf") fd
  f_law_leaf : mg "_law_leaf" = some (.ref (He.ga K "_law_leaf"))
  d_law_fits : ∃ fd, FunD K "_law_fits" "_law_fits" (defArgs (topS 40)) (defBody (topS 40)) (defScope (topS 40)) [] [] (He.ga K "_law_fits") fd
  f_law_fits : mg "_law_fits" = some (.ref (He.ga K "_law_fits"))
  d_law_call : ∃ fd, FunD K "_law_call" "_law_call" (defArgs (topS 41)) (defBody (topS 41)) (defScope (topS 41)) [] [] (He.ga K "_law_call") fd
  f_law_call : mg "_law_call" = some (.ref (He.ga K "_law_call"))
  d_law_let : ∃ fd, FunD K "_law_let" "_law_let" (defArgs (topS 42)) (defBody (topS 42)) (defScope (topS 42)) [] [] (He.ga K "_law_let") fd
  f_law_let : mg "_law_let" = some (.ref (He.ga K "_law_let"))
  d_law_part : ∃ fd, FunD K "_law_part" "_law_part" (defArgs (topS 43)) (defBody (topS 43)) (defScope (topS 43)) [] [] (He.ga K "_law_part") fd
  f_law_part : mg "_law_part" = some (.ref (He.ga K "_law_part"))
  d_law_loop : ∃ fd, FunD K "_law_loop" "_law_loop" (defArgs (topS 44)) (defBody (topS 44)) (defScope (topS 44)) [] [] (He.ga K "_law_loop") fd
  f_law_loop : mg "_law_loop" = some (.ref (He.ga K "_law_loop"))
  d_law_body : ∃ fd, FunD K "_law_body" "_law_body" (defArgs (topS 45)) (defBody (topS 45)) (defScope (topS 45)) [] [] (He.ga K "_law_body") fd
  f_law_body : mg "_law_body" = some (.ref (He.ga K "_law_body"))
  d_law_program : ∃ fd, FunD K "_law_program" "_law_program" (defArgs (topS 46)) (defBody (topS 46)) (defScope (topS 46)) [] [] (He.ga K "_law_program") fd
  f_law_program : mg "_law_program" = some (.ref (He.ga K "_law_program"))
  d_law_told : ∃ fd, FunD K "_law_told" "_law_told" (defArgs (topS 47)) (defBody (topS 47)) (defScope (topS 47)) [] [] (He.ga K "_law_told") fd
  f_law_told : mg "_law_told" = some (.ref (He.ga K "_law_told"))
  d_law_nested : ∃ fd, FunD K "_law_nested" "_law_nested" (defArgs (topS 48)) (defBody (topS 48)) (defScope (topS 48)) [] [] (He.ga K "_law_nested") fd
  f_law_nested : mg "_law_nested" = some (.ref (He.ga K "_law_nested"))
  d_law_things : ∃ fd, FunD K "_law_things" "_law_things" (defArgs (topS 49)) (defBody (topS 49)) (defScope (topS 49)) [] [] (He.ga K "_law_things") fd
  f_law_things : mg "_law_things" = some (.ref (He.ga K "_law_things"))
  d_law : ∃ fd, FunD K "law" "law" (defArgs (topS 50)) (defBody (topS 50)) (defScope (topS 50)) [] [] (He.ga K "law") fd
  f_law : mg "law" = some (.ref (He.ga K "law"))
  n_str : mg "str" = none
  n_isinstance : mg "isinstance" = none
  n_len : mg "len" = none
  n_all : mg "all" = none
  n_int : mg "int" = none
  n_bool : mg "bool" = none
  n_abs : mg "abs" = none
  n_list : mg "list" = none
  n_tuple : mg "tuple" = none
  n_range : mg "range" = none
  n_max : mg "max" = none
  n_min : mg "min" = none
  n_ValueError : mg "ValueError" = none
  v_LETTERS : ∃ u, mg "LETTERS" = some u ∧ RelV (.str "abcdefghijklmnopqrstuvwxyz") u
  g_PARTS : mg "PARTS" = some (.ref (He.ga K "PARTS"))
  k_PARTS : KTab K w (He.ga K "PARTS") [("give", V.int 2), ("plus", V.int 2), ("less", V.int 2), ("times", V.int 2), ("below", V.int 2), ("when", V.int 3), ("pair", V.int 2), ("left", V.int 1), ("right", V.int 1)]
  v_MOST_ROWS : ∃ u, mg "MOST_ROWS" = some u ∧ RelV (.int 4) u
  v_DEEPEST : ∃ u, mg "DEEPEST" = some u ∧ RelV (.int 12) u
  v_MOST_PARTS : ∃ u, mg "MOST_PARTS" = some u ∧ RelV (.int 60) u
  v_MOST_NAMES : ∃ u, mg "MOST_NAMES" = some u ∧ RelV (.int 4) u
  v_MOST_FUNCTIONS : ∃ u, mg "MOST_FUNCTIONS" = some u ∧ RelV (.int 8) u
abbrev st_Twice___init__ : Stmt := inClass (topS 3) 0
theorem sc_Twice___init__ : FnScope ["self", "name"] ["self", "name"] (defScope st_Twice___init__) := ⟨rfl, rfl, rfl, by decide +kernel, rfl, by decide +kernel, by decide +kernel⟩
theorem mk_Twice___init__ {P : Program} {w : World} {K : PySem.W.Frag} {mg : Str → Option Value} {base : Heap} (T : TX w K mg) {j : Nat} {sp : Sp}
    (pure_ : PureOk 2 sp (t_Twice___init__ K w ) 2) : Xal P w K mg base (j + 2) "Twice" (He.ga K "Twice") sp := by
  obtain ⟨fd, F⟩ := T.d_Twice___init__
  refine xal_mk F T.errs.i_Twice T.errs.ti_Twice T.errs.o_Twice T.g_Twice sc_Twice___init__ (F.bindsN fun _ _ _ _ _ _ us hl => match us, hl with | [_, _], _ => rfl) pure_.len fun cdv A outer s H vs Q E hr h => ?_
  refine ⟨t_Twice___init__ K w , PSs.nox ?_, pure_.run vs H Q E h⟩
  exact (pss_one (ps_ost (pv 0) (pv 1)))
abbrev st_Hidden___init__ : Stmt := inClass (topS 4) 0
theorem sc_Hidden___init__ : FnScope ["self", "name"] ["self", "name"] (defScope st_Hidden___init__) := ⟨rfl, rfl, rfl, by decide +kernel, rfl, by decide +kernel, by decide +kernel⟩
theorem mk_Hidden___init__ {P : Program} {w : World} {K : PySem.W.Frag} {mg : Str → Option Value} {base : Heap} (T : TX w K mg) {j : Nat} {sp : Sp}
    (pure_ : PureOk 2 sp (t_Hidden___init__ K w ) 2) : Xal P w K mg base (j + 2) "Hidden" (He.ga K "Hidden") sp := by
  obtain ⟨fd, F⟩ := T.d_Hidden___init__
  refine xal_mk F T.errs.i_Hidden T.errs.ti_Hidden T.errs.o_Hidden T.g_Hidden sc_Hidden___init__ (F.bindsN fun _ _ _ _ _ _ us hl => match us, hl with | [_, _], _ => rfl) pure_.len fun cdv A outer s H vs Q E hr h => ?_
  refine ⟨t_Hidden___init__ K w , PSs.nox ?_, pure_.run vs H Q E h⟩
  exact (pss_one (ps_ost (pv 0) (pv 1)))
abbrev st_Stranger___init__ : Stmt := inClass (topS 5) 0
theorem sc_Stranger___init__ : FnScope ["self", "name"] ["self", "name"] (defScope st_Stranger___init__) := ⟨rfl, rfl, rfl, by decide +kernel, rfl, by decide +kernel, by decide +kernel⟩
theorem mk_Stranger___init__ {P : Program} {w : World} {K : PySem.W.Frag} {mg : Str → Option Value} {base : Heap} (T : TX w K mg) {j : Nat} {sp : Sp}
    (pure_ : PureOk 2 sp (t_Stranger___init__ K w ) 2) : Xal P w K mg base (j + 2) "Stranger" (He.ga K "Stranger") sp := by
  obtain ⟨fd, F⟩ := T.d_Stranger___init__
  refine xal_mk F T.errs.i_Stranger T.errs.ti_Stranger T.errs.o_Stranger T.g_Stranger sc_Stranger___init__ (F.bindsN fun _ _ _ _ _ _ us hl => match us, hl with | [_, _], _ => rfl) pure_.len fun cdv A outer s H vs Q E hr h => ?_
  refine ⟨t_Stranger___init__ K w , PSs.nox ?_, pure_.run vs H Q E h⟩
  exact (pss_one (ps_ost (pv 0) (pv 1)))
abbrev st_is_name : Stmt := topS 13
theorem sc_is_name : FnScope ["thing", "sign"] ["thing"] (defScope st_is_name) := ⟨rfl, rfl, rfl, by decide +kernel, rfl, by decide +kernel, by decide +kernel⟩
theorem mk_is_name {P : Program} {w : World} {K : PySem.W.Frag} {mg : Str → Option Value} {base : Heap} (T : TX w K mg) {j : Nat} {sp : Sp}
    (pure_ : PureOk 1 sp (t_is_name K w ) 2) : Cal P w K mg base (j + 1) "is_name" sp := by
  obtain ⟨fd, F⟩ := T.d_is_name
  refine cal_mk F T.f_is_name sc_is_name (F.bindsN fun _ _ _ _ _ _ us hl => match us, hl with | [_], _ => rfl) pure_.len fun cdv A outer s H vs Q E hr h => ?_
  refine ⟨t_is_name K w , PSs.nox ?_, pure_.run vs H Q E h⟩
  exact (pss_cons (ps_if (PW.pt (pw_or (pt_not (pt_tru (pe_callB call_isiG (by rfl) T.n_isinstance (by decide +kernel) (pa_cons (pv 0) (pa_cons (pe_bltn (v := .ty "str") rfl T.n_str (by decide +kernel) rfl) pa_nil))) (by intro _; rfl))) (pw_or1 (pt_not (pt_chain op_le op_le pe_int (pe_callB call_lenG (by rfl) T.n_len (by decide +kernel) (pa_cons (pv 0) pa_nil)) pe_int))))) (pss_one (ps_ret pe_bl)) pss_nil)
  (pss_one (ps_ret (pe_callB (cr_all rfl) (by rfl) T.n_all (by decide +kernel) (pa_cons (pe_lc (own := [("sign", 1)]) (g := (gName 1)) (tt := tYes) rfl sc_is_name.nd (pi_seq (pv 0)) (blkOk_by (by kernel_rfl)) (fun _ _ _ _ _ => (pg_name (i := 1) sc_is_name.nd rfl (by first | exact Or.inl rfl | exact Or.inr rfl))) (fun _ _ _ _ _ => pts_nil) (fun _ _ _ _ _ => (pe_cmpR (op_inG (hu_of hr)) (pv 1) (pe_gc rfl T.v_LETTERS) (by rfl)))) pa_nil)))))
abbrev st_is_whole : Stmt := topS 14
theorem sc_is_whole : FnScope ["thing"] ["thing"] (defScope st_is_whole) := ⟨rfl, rfl, rfl, by decide +kernel, rfl, by decide +kernel, by decide +kernel⟩
theorem mk_is_whole {P : Program} {w : World} {K : PySem.W.Frag} {mg : Str → Option Value} {base : Heap} (T : TX w K mg) {j : Nat} {sp : Sp}
    (pure_ : PureOk 1 sp (t_is_whole K w ) 1) : Cal P w K mg base (j + 1) "is_whole" sp := by
  obtain ⟨fd, F⟩ := T.d_is_whole
  refine cal_mk F T.f_is_whole sc_is_whole (F.bindsN fun _ _ _ _ _ _ us hl => match us, hl with | [_], _ => rfl) pure_.len fun cdv A outer s H vs Q E hr h => ?_
  refine ⟨t_is_whole K w , PSs.nox ?_, pure_.run vs H Q E h⟩
  exact (pss_one (ps_ret (pe_andT (pe_callB call_isiG (by rfl) T.n_isinstance (by decide +kernel) (pa_cons (pv 0) (pa_cons (pe_bltn (v := .ty "int") rfl T.n_int (by decide +kernel) rfl) pa_nil))) (pe_one (pe_notT (pe_callB call_isiG (by rfl) T.n_isinstance (by decide +kernel) (pa_cons (pv 0) (pa_cons (pe_bltn (v := .ty "bool") rfl T.n_bool (by decide +kernel) rfl) pa_nil))))))))
abbrev st_is_small : Stmt := topS 15
theorem sc_is_small : FnScope ["number"] ["number"] (defScope st_is_small) := ⟨rfl, rfl, rfl, by decide +kernel, rfl, by decide +kernel, by decide +kernel⟩
theorem mk_is_small {P : Program} {w : World} {K : PySem.W.Frag} {mg : Str → Option Value} {base : Heap} (T : TX w K mg) {j : Nat} {sp : Sp}
    (pure_ : PureOk 1 sp (t_is_small K w ) 1) : Cal P w K mg base (j + 1) "is_small" sp := by
  obtain ⟨fd, F⟩ := T.d_is_small
  refine cal_mk F T.f_is_small sc_is_small (F.bindsN fun _ _ _ _ _ _ us hl => match us, hl with | [_], _ => rfl) pure_.len fun cdv A outer s H vs Q E hr h => ?_
  refine ⟨t_is_small K w , PSs.nox ?_, pure_.run vs H Q E h⟩
  exact (pss_one (ps_ret (pe_cmpR op_lt (pe_callB call_abs (by rfl) T.n_abs (by decide +kernel) (pa_cons (pv 0) pa_nil)) (pe_op op_pow pe_int pe_int) (nomark _))))
abbrev st_within : Stmt := topS 16
theorem sc_within : FnScope ["part", "name", "one"] ["part"] (defScope st_within) := ⟨rfl, rfl, rfl, by decide +kernel, rfl, by decide +kernel, by decide +kernel⟩
theorem mk_within {P : Program} {w : World} {K : PySem.W.Frag} {mg : Str → Option Value} {base : Heap} (T : TX w K mg) {j : Nat} {sp : Sp}
    (pure_ : PureOk 1 sp (t_within K w ) 3) : Cal P w K mg base (j + 1) "within" sp := by
  obtain ⟨fd, F⟩ := T.d_within
  refine cal_mk F T.f_within sc_within (F.bindsN fun _ _ _ _ _ _ us hl => match us, hl with | [_], _ => rfl) pure_.len fun cdv A outer s H vs Q E hr h => ?_
  refine ⟨t_within K w , PSs.nox ?_, pure_.run vs H Q E h⟩
  exact (pss_cons (ps_if (pt_cmpR (op_inG (hu_of hr)) (pe_ixG (hu_of hr) (pv 0) pe_int (fun _ _ => rfl)) (pe_glob (v := .ref (He.ga K "PARTS")) rfl T.g_PARTS rfl) (by rfl)) (pss_one (ps_ret (pe_callTy (call_listG rfl) (by rfl) T.n_list (by decide +kernel) (pa_cons (pe_slice sl_any (pv 0) (po_some pe_int) po_none) pa_nil)))) pss_nil)
  (pss_cons (ps_if (pt_cmpR (op_eqG (hu2_of hr)) (pe_ixG (hu_of hr) (pv 0) pe_int (fun _ _ => rfl)) pe_str (nomark _)) (pss_one (ps_ret (pe_op op_addG (pe_lc (own := [("name", 1), ("one", 2)]) (g := (gTup K 2 (gCons (gName 1) (gCons (gName 2) gNil)))) (tt := tYes) rfl sc_within.nd (pi_seq (pe_ixG (hu_of hr) (pv 0) pe_int (fun _ _ => rfl))) (blkOk_by (by kernel_rfl)) (fun _ _ _ _ _ => (pg_tup rfl (pgs_cons (pg_name (i := 1) sc_within.nd rfl (by first | exact Or.inl rfl | exact Or.inr rfl)) (pgs_cons (pg_name (i := 2) sc_within.nd rfl (by first | exact Or.inl rfl | exact Or.inr rfl)) pgs_nil)))) (fun _ _ _ _ _ => pts_nil) (fun _ _ _ _ _ => (pv 2))) (pe_lstN (pa_cons (pe_ixG (hu_of hr) (pv 0) pe_int (fun _ _ => rfl)) pa_nil))))) pss_nil)
  (pss_one (ps_ret (pe_lstN pa_nil)))))
abbrev st_in_order : Stmt := topS 17
theorem sc_in_order : FnScope ["part", "found", "pile", "one"] ["part"] (defScope st_in_order) := ⟨rfl, rfl, rfl, by decide +kernel, rfl, by decide +kernel, by decide +kernel⟩
theorem mk_in_order {P : Program} {w : World} {K : PySem.W.Frag} {mg : Str → Option Value} {base : Heap} (T : TX w K mg) {j : Nat} {sp : Sp} {s_within : Sp} (c_within : Cal P w K mg base j "within" s_within)
    (pure_ : PureOk 1 sp (t_in_order K w s_within) 4) : Cal P w K mg base (j + 1) "in_order" sp := by
  obtain ⟨fd, F⟩ := T.d_in_order
  refine cal_mk F T.f_in_order sc_in_order (F.bindsN fun _ _ _ _ _ _ us hl => match us, hl with | [_], _ => rfl) pure_.len fun cdv A outer s H vs Q E hr h => ?_
  refine ⟨t_in_order K w s_within, PSs.nox ?_, pure_.run vs H Q E h⟩
  exact (pss_cons (ps_set (i := 1) sc_in_order.nd rfl (Or.inl rfl) (pe_lstN pa_nil))
  (pss_cons (ps_set (i := 2) sc_in_order.nd rfl (Or.inl rfl) (pe_lstN (pa_cons (pv 0) pa_nil)))
  (pss_cons (ps_while PassesOwn.never (pt_cmpR (op_neG (hu2_of hr)) (pv 2) (pe_lstN pa_nil) (nomark _)) (pss_cons (ps_set (i := 3) sc_in_order.nd rfl (Or.inl rfl) (pe_bm0 PySem.F.plainAttrs_list PySem.F.slot_list_pop PySem.F.type_list_pop mt_popG (pv 2)))
  (pss_cons (ps_expr (pe_bm PySem.F.plainAttrs_list PySem.F.slot_list_append PySem.F.type_list_append mt_appendG (pv 1) (pa_cons (pv 3) pa_nil)))
  (pss_one (ps_expr (pe_bm PySem.F.plainAttrs_list PySem.F.slot_list_extend PySem.F.type_list_extend mt_extendG (pv 2) (pa_cons (pe_revG (pe_cal c_within hr rfl (pa_cons (pv 3) pa_nil))) pa_nil)))))))
  (pss_one (ps_ret (pv 1))))))
abbrev st_is_row : Stmt := topS 24
theorem sc_is_row : FnScope ["thing"] ["thing"] (defScope st_is_row) := ⟨rfl, rfl, rfl, by decide +kernel, rfl, by decide +kernel, by decide +kernel⟩
theorem mk_is_row {P : Program} {w : World} {K : PySem.W.Frag} {mg : Str → Option Value} {base : Heap} (T : TX w K mg) {j : Nat} {sp : Sp} {s_is_name : Sp} (c_is_name : Cal P w K mg base j "is_name" s_is_name)
    (pure_ : PureOk 1 sp (t_is_row K w s_is_name) 1) : Cal P w K mg base (j + 1) "is_row" sp := by
  obtain ⟨fd, F⟩ := T.d_is_row
  refine cal_mk F T.f_is_row sc_is_row (F.bindsN fun _ _ _ _ _ _ us hl => match us, hl with | [_], _ => rfl) pure_.len fun cdv A outer s H vs Q E hr h => ?_
  refine ⟨t_is_row K w s_is_name, PSs.nox ?_, pure_.run vs H Q E h⟩
  exact (pss_one (ps_ret (pe_andT (pe_callB call_isiG (by rfl) T.n_isinstance (by decide +kernel) (pa_cons (pv 0) (pa_cons (pe_bltn (v := .ty "tuple") rfl T.n_tuple (by decide +kernel) rfl) pa_nil))) (pe_andT (pe_cmpR (op_eqG (hu2_of hr)) (pe_callB call_lenG (by rfl) T.n_len (by decide +kernel) (pa_cons (pv 0) pa_nil)) pe_int (nomark _)) (pe_one (pe_cal c_is_name hr rfl (pa_cons (pe_ixG (hu_of hr) (pv 0) pe_int (fun _ _ => rfl)) pa_nil)))))))
abbrev st_are_rows : Stmt := topS 25
theorem sc_are_rows : FnScope ["thing", "row"] ["thing"] (defScope st_are_rows) := ⟨rfl, rfl, rfl, by decide +kernel, rfl, by decide +kernel, by decide +kernel⟩
theorem mk_are_rows {P : Program} {w : World} {K : PySem.W.Frag} {mg : Str → Option Value} {base : Heap} (T : TX w K mg) {j : Nat} {sp : Sp} {s_is_row : Sp} (c_is_row : Cal P w K mg base j "is_row" s_is_row)
    (pure_ : PureOk 1 sp (t_are_rows K w s_is_row) 2) : Cal P w K mg base (j + 1) "are_rows" sp := by
  obtain ⟨fd, F⟩ := T.d_are_rows
  refine cal_mk F T.f_are_rows sc_are_rows (F.bindsN fun _ _ _ _ _ _ us hl => match us, hl with | [_], _ => rfl) pure_.len fun cdv A outer s H vs Q E hr h => ?_
  refine ⟨t_are_rows K w s_is_row, PSs.nox ?_, pure_.run vs H Q E h⟩
  exact (pss_one (ps_ret (pe_andT (pe_callB call_isiG (by rfl) T.n_isinstance (by decide +kernel) (pa_cons (pv 0) (pa_cons (pe_bltn (v := .ty "tuple") rfl T.n_tuple (by decide +kernel) rfl) pa_nil))) (pe_andT (pe_chain op_le op_le pe_int (pe_callB call_lenG (by rfl) T.n_len (by decide +kernel) (pa_cons (pv 0) pa_nil)) (pe_gc rfl T.v_MOST_ROWS)) (pe_one (pe_callB (cr_all rfl) (by rfl) T.n_all (by decide +kernel) (pa_cons (pe_lc (own := [("row", 1)]) (g := (gName 1)) (tt := tYes) rfl sc_are_rows.nd (pi_seq (pv 0)) (blkOk_by (by kernel_rfl)) (fun _ _ _ _ _ => (pg_name (i := 1) sc_are_rows.nd rfl (by first | exact Or.inl rfl | exact Or.inr rfl))) (fun _ _ _ _ _ => pts_nil) (fun _ _ _ _ _ => (pe_cal c_is_row hr rfl (pa_cons (pv 1) pa_nil)))) pa_nil)))))))
abbrev st_parts_of : Stmt := topS 26
theorem sc_parts_of : FnScope ["thing", "row"] ["thing"] (defScope st_parts_of) := ⟨rfl, rfl, rfl, by decide +kernel, rfl, by decide +kernel, by decide +kernel⟩
theorem mk_parts_of {P : Program} {w : World} {K : PySem.W.Frag} {mg : Str → Option Value} {base : Heap} (T : TX w K mg) {j : Nat} {sp : Sp} {s_is_whole s_is_small s_is_name s_are_rows : Sp} (c_is_whole : Cal P w K mg base j "is_whole" s_is_whole) (c_is_small : Cal P w K mg base j "is_small" s_is_small) (c_is_name : Cal P w K mg base j "is_name" s_is_name) (c_are_rows : Cal P w K mg base j "are_rows" s_are_rows)
    (pure_ : PureOk 1 sp (t_parts_of K w s_is_whole s_is_small s_is_name s_are_rows) 2) : Cal P w K mg base (j + 1) "parts_of" sp := by
  obtain ⟨fd, F⟩ := T.d_parts_of
  refine cal_mk F T.f_parts_of sc_parts_of (F.bindsN fun _ _ _ _ _ _ us hl => match us, hl with | [_], _ => rfl) pure_.len fun cdv A outer s H vs Q E hr h => ?_
  refine ⟨t_parts_of K w s_is_whole s_is_small s_is_name s_are_rows, PSs.nox ?_, pure_.run vs H Q E h⟩
  exact (pss_cons (ps_if (PW.pt (pw_or (pt_not (pt_tru (pe_callB call_isiG (by rfl) T.n_isinstance (by decide +kernel) (pa_cons (pv 0) (pa_cons (pe_bltn (v := .ty "tuple") rfl T.n_tuple (by decide +kernel) rfl) pa_nil))) (by intro _; rfl))) (pw_or (pt_cmpR op_lt (pe_callB call_lenG (by rfl) T.n_len (by decide +kernel) (pa_cons (pv 0) pa_nil)) pe_int (nomark _)) (pw_or1 (pt_not (pt_tru (pe_callB call_isiG (by rfl) T.n_isinstance (by decide +kernel) (pa_cons (pe_ixG (hu_of hr) (pv 0) pe_int (fun _ _ => rfl)) (pa_cons (pe_bltn (v := .ty "str") rfl T.n_str (by decide +kernel) rfl) pa_nil))) (by intro _; rfl))))))) (pss_one (ps_ret pe_non)) pss_nil)
  (pss_cons (ps_if (PW.pt (pw_and (pt_cmpR (op_eqG (hu2_of hr)) (pe_ixG (hu_of hr) (pv 0) pe_int (fun _ _ => rfl)) pe_str (nomark _)) (pw_and (pt_cmpR (op_eqG (hu2_of hr)) (pe_callB call_lenG (by rfl) T.n_len (by decide +kernel) (pa_cons (pv 0) pa_nil)) pe_int (nomark _)) (pw_and (pt_tru (pe_cal c_is_whole hr rfl (pa_cons (pe_ixG (hu_of hr) (pv 0) pe_int (fun _ _ => rfl)) pa_nil)) (by intro _; rfl)) (pw_and1 (pt_tru (pe_cal c_is_small hr rfl (pa_cons (pe_ixG (hu_of hr) (pv 0) pe_int (fun _ _ => rfl)) pa_nil)) (by intro _; rfl))))))) (pss_one (ps_ret (pe_lstN pa_nil))) pss_nil)
  (pss_cons (ps_if (PW.pt (pw_and (pt_cmpR (op_inG (hu_of hr)) (pe_ixG (hu_of hr) (pv 0) pe_int (fun _ _ => rfl)) (pe_tupN (pa_cons pe_str (pa_cons pe_str pa_nil))) (by rfl)) (pw_and (pt_cmpR (op_eqG (hu2_of hr)) (pe_callB call_lenG (by rfl) T.n_len (by decide +kernel) (pa_cons (pv 0) pa_nil)) pe_int (nomark _)) (pw_and1 (pt_tru (pe_cal c_is_name hr rfl (pa_cons (pe_ixG (hu_of hr) (pv 0) pe_int (fun _ _ => rfl)) pa_nil)) (by intro _; rfl)))))) (pss_one (ps_ret (pe_lstN pa_nil))) pss_nil)
  (pss_cons (ps_if (PW.pt (pw_and (pt_cmpR (op_inG (hu_of hr)) (pe_ixG (hu_of hr) (pv 0) pe_int (fun _ _ => rfl)) (pe_glob (v := .ref (He.ga K "PARTS")) rfl T.g_PARTS rfl) (by rfl)) (pw_and1 (pt_cmpR (op_eqG (hu2_of hr)) (pe_callB call_lenG (by rfl) T.n_len (by decide +kernel) (pa_cons (pv 0) pa_nil)) (pe_op op_addG (pe_ixG (hu_of hr) (pe_glob (v := .ref (He.ga K "PARTS")) rfl T.g_PARTS rfl) (pe_ixG (hu_of hr) (pv 0) pe_int (fun _ _ => rfl)) (fun _ _ => rfl)) pe_int) (nomark _))))) (pss_one (ps_ret (pe_callTy (call_listG rfl) (by rfl) T.n_list (by decide +kernel) (pa_cons (pe_slice sl_any (pv 0) (po_some pe_int) po_none) pa_nil)))) pss_nil)
  (pss_cons (ps_if (PW.pt (pw_and (pt_cmpR (op_eqG (hu2_of hr)) (pe_ixG (hu_of hr) (pv 0) pe_int (fun _ _ => rfl)) pe_str (nomark _)) (pw_and (pt_cmpR (op_eqG (hu2_of hr)) (pe_callB call_lenG (by rfl) T.n_len (by decide +kernel) (pa_cons (pv 0) pa_nil)) pe_int (nomark _)) (pw_and1 (pt_tru (pe_cal c_are_rows hr rfl (pa_cons (pe_ixG (hu_of hr) (pv 0) pe_int (fun _ _ => rfl)) pa_nil)) (by intro _; rfl)))))) (pss_one (ps_ret (pe_op op_addG (pe_lc (own := [("row", 1)]) (g := (gName 1)) (tt := tYes) rfl sc_parts_of.nd (pi_seq (pe_ixG (hu_of hr) (pv 0) pe_int (fun _ _ => rfl))) (blkOk_by (by kernel_rfl)) (fun _ _ _ _ _ => (pg_name (i := 1) sc_parts_of.nd rfl (by first | exact Or.inl rfl | exact Or.inr rfl))) (fun _ _ _ _ _ => pts_nil) (fun _ _ _ _ _ => (pe_ixG (hu_of hr) (pv 1) pe_int (fun _ _ => rfl)))) (pe_lstN (pa_cons (pe_ixG (hu_of hr) (pv 0) pe_int (fun _ _ => rfl)) pa_nil))))) pss_nil)
  (pss_one (ps_ret pe_non)))))))
abbrev st_is_body : Stmt := topS 27
theorem sc_is_body : FnScope ["thing", "many", "pile", "one", "deep", "inner", "part"] ["thing"] (defScope st_is_body) := ⟨rfl, rfl, rfl, by decide +kernel, rfl, by decide +kernel, by decide +kernel⟩
theorem mk_is_body {P : Program} {w : World} {K : PySem.W.Frag} {mg : Str → Option Value} {base : Heap} (T : TX w K mg) {j : Nat} {sp : Sp} {s_parts_of : Sp} (c_parts_of : Cal P w K mg base j "parts_of" s_parts_of)
    (pure_ : PureOk 1 sp (t_is_body K w s_parts_of) 7) : Cal P w K mg base (j + 1) "is_body" sp := by
  obtain ⟨fd, F⟩ := T.d_is_body
  refine cal_mk F T.f_is_body sc_is_body (F.bindsN fun _ _ _ _ _ _ us hl => match us, hl with | [_], _ => rfl) pure_.len fun cdv A outer s H vs Q E hr h => ?_
  refine ⟨t_is_body K w s_parts_of, PSs.nox ?_, pure_.run vs H Q E h⟩
  exact (pss_cons (ps_set (i := 1) sc_is_body.nd rfl (Or.inl rfl) pe_int)
  (pss_cons (ps_set (i := 2) sc_is_body.nd rfl (Or.inl rfl) (pe_lstN (pa_cons (pe_tupN (pa_cons (pv 0) (pa_cons pe_int pa_nil))) pa_nil)))
  (pss_cons (ps_while PassesOwn.never (pt_cmpR (op_neG (hu2_of hr)) (pv 2) (pe_lstN pa_nil) (nomark _)) (pss_cons (ps_asg (pe_bm0 PySem.F.plainAttrs_list PySem.F.slot_list_pop PySem.F.type_list_pop mt_popG (pv 2)) (pg_tup rfl (pgs_cons (pg_name (i := 3) sc_is_body.nd rfl (by first | exact Or.inl rfl | exact Or.inr rfl)) (pgs_cons (pg_name (i := 4) sc_is_body.nd rfl (by first | exact Or.inl rfl | exact Or.inr rfl)) pgs_nil))))
  (pss_cons (ps_set (i := 5) sc_is_body.nd rfl (Or.inl rfl) (pe_cal c_parts_of hr rfl (pa_cons (pv 3) pa_nil)))
  (pss_cons (ps_set (i := 1) sc_is_body.nd rfl (Or.inl rfl) (pe_op op_addG (pv 1) pe_int))
  (pss_cons (ps_if (PW.pt (pw_or (pt_cmpR op_isG (pv 5) pe_non (nomark _)) (pw_or (pt_cmpR op_gt (pv 4) (pe_gc rfl T.v_DEEPEST) (nomark _)) (pw_or1 (pt_cmpR op_gt (pv 1) (pe_gc rfl T.v_MOST_PARTS) (nomark _)))))) (pss_one (ps_ret pe_bl)) pss_nil)
  (pss_one (ps_expr (pe_bm PySem.F.plainAttrs_list PySem.F.slot_list_extend PySem.F.type_list_extend mt_extendG (pv 2) (pa_cons (pe_lc (own := [("part", 6)]) (g := (gName 6)) (tt := tYes) rfl sc_is_body.nd (pi_seq (pv 5)) (blkOk_by (by kernel_rfl)) (fun _ _ _ _ _ => (pg_name (i := 6) sc_is_body.nd rfl (by first | exact Or.inl rfl | exact Or.inr rfl))) (fun _ _ _ _ _ => pts_nil) (fun _ _ _ _ _ => (pe_tupN (pa_cons (pv 6) (pa_cons (pe_op op_addG (pv 4) pe_int) pa_nil))))) pa_nil)))))))))
  (pss_one (ps_ret pe_bl)))))
abbrev st_is_function : Stmt := topS 28
theorem sc_is_function : FnScope ["thing", "name"] ["thing"] (defScope st_is_function) := ⟨rfl, rfl, rfl, by decide +kernel, rfl, by decide +kernel, by decide +kernel⟩
theorem mk_is_function {P : Program} {w : World} {K : PySem.W.Frag} {mg : Str → Option Value} {base : Heap} (T : TX w K mg) {j : Nat} {sp : Sp} {s_is_name s_is_body : Sp} (c_is_name : Cal P w K mg base j "is_name" s_is_name) (c_is_body : Cal P w K mg base j "is_body" s_is_body)
    (pure_ : PureOk 1 sp (t_is_function K w s_is_name s_is_body) 2) : Cal P w K mg base (j + 1) "is_function" sp := by
  obtain ⟨fd, F⟩ := T.d_is_function
  refine cal_mk F T.f_is_function sc_is_function (F.bindsN fun _ _ _ _ _ _ us hl => match us, hl with | [_], _ => rfl) pure_.len fun cdv A outer s H vs Q E hr h => ?_
  refine ⟨t_is_function K w s_is_name s_is_body, PSs.nox ?_, pure_.run vs H Q E h⟩
  exact (pss_cons (ps_if (PW.pt (pw_or (pt_not (pt_tru (pe_callB call_isiG (by rfl) T.n_isinstance (by decide +kernel) (pa_cons (pv 0) (pa_cons (pe_bltn (v := .ty "tuple") rfl T.n_tuple (by decide +kernel) rfl) pa_nil))) (by intro _; rfl))) (pw_or (pt_cmpR (op_neG (hu2_of hr)) (pe_callB call_lenG (by rfl) T.n_len (by decide +kernel) (pa_cons (pv 0) pa_nil)) pe_int (nomark _)) (pw_or (pt_not (pt_tru (pe_cal c_is_name hr rfl (pa_cons (pe_ixG (hu_of hr) (pv 0) pe_int (fun _ _ => rfl)) pa_nil)) (by intro _; rfl))) (pw_or1 (pt_not (pt_tru (pe_callB call_isiG (by rfl) T.n_isinstance (by decide +kernel) (pa_cons (pe_ixG (hu_of hr) (pv 0) pe_int (fun _ _ => rfl)) (pa_cons (pe_bltn (v := .ty "tuple") rfl T.n_tuple (by decide +kernel) rfl) pa_nil))) (by intro _; rfl)))))))) (pss_one (ps_ret pe_bl)) pss_nil)
  (pss_one (ps_ret (pe_andT (pe_cmpR op_le (pe_callB call_lenG (by rfl) T.n_len (by decide +kernel) (pa_cons (pe_ixG (hu_of hr) (pv 0) pe_int (fun _ _ => rfl)) pa_nil)) (pe_gc rfl T.v_MOST_NAMES) (nomark _)) (pe_andT (pe_callB (cr_all rfl) (by rfl) T.n_all (by decide +kernel) (pa_cons (pe_lc (own := [("name", 1)]) (g := (gName 1)) (tt := tYes) rfl sc_is_function.nd (pi_seq (pe_ixG (hu_of hr) (pv 0) pe_int (fun _ _ => rfl))) (blkOk_by (by kernel_rfl)) (fun _ _ _ _ _ => (pg_name (i := 1) sc_is_function.nd rfl (by first | exact Or.inl rfl | exact Or.inr rfl))) (fun _ _ _ _ _ => pts_nil) (fun _ _ _ _ _ => (pe_cal c_is_name hr rfl (pa_cons (pv 1) pa_nil)))) pa_nil)) (pe_one (pe_cal c_is_body hr rfl (pa_cons (pe_ixG (hu_of hr) (pv 0) pe_int (fun _ _ => rfl)) pa_nil))))))))
abbrev st_is_built : Stmt := topS 29
theorem sc_is_built : FnScope ["thing", "one"] ["thing"] (defScope st_is_built) := ⟨rfl, rfl, rfl, by decide +kernel, rfl, by decide +kernel, by decide +kernel⟩
theorem mk_is_built {P : Program} {w : World} {K : PySem.W.Frag} {mg : Str → Option Value} {base : Heap} (T : TX w K mg) {j : Nat} {sp : Sp} {s_is_function s_is_body : Sp} (c_is_function : Cal P w K mg base j "is_function" s_is_function) (c_is_body : Cal P w K mg base j "is_body" s_is_body)
    (pure_ : PureOk 1 sp (t_is_built K w s_is_function s_is_body) 2) : Cal P w K mg base (j + 1) "is_built" sp := by
  obtain ⟨fd, F⟩ := T.d_is_built
  refine cal_mk F T.f_is_built sc_is_built (F.bindsN fun _ _ _ _ _ _ us hl => match us, hl with | [_], _ => rfl) pure_.len fun cdv A outer s H vs Q E hr h => ?_
  refine ⟨t_is_built K w s_is_function s_is_body, PSs.nox ?_, pure_.run vs H Q E h⟩
  exact (pss_cons (ps_if (PW.pt (pw_or (pt_not (pt_tru (pe_callB call_isiG (by rfl) T.n_isinstance (by decide +kernel) (pa_cons (pv 0) (pa_cons (pe_bltn (v := .ty "tuple") rfl T.n_tuple (by decide +kernel) rfl) pa_nil))) (by intro _; rfl))) (pw_or (pt_cmpR (op_neG (hu2_of hr)) (pe_callB call_lenG (by rfl) T.n_len (by decide +kernel) (pa_cons (pv 0) pa_nil)) pe_int (nomark _)) (pw_or1 (pt_not (pt_tru (pe_callB call_isiG (by rfl) T.n_isinstance (by decide +kernel) (pa_cons (pe_ixG (hu_of hr) (pv 0) pe_int (fun _ _ => rfl)) (pa_cons (pe_bltn (v := .ty "tuple") rfl T.n_tuple (by decide +kernel) rfl) pa_nil))) (by intro _; rfl))))))) (pss_one (ps_ret pe_bl)) pss_nil)
  (pss_one (ps_ret (pe_andT (pe_cmpR op_le (pe_callB call_lenG (by rfl) T.n_len (by decide +kernel) (pa_cons (pe_ixG (hu_of hr) (pv 0) pe_int (fun _ _ => rfl)) pa_nil)) (pe_gc rfl T.v_MOST_FUNCTIONS) (nomark _)) (pe_andT (pe_callB (cr_all rfl) (by rfl) T.n_all (by decide +kernel) (pa_cons (pe_lc (own := [("one", 1)]) (g := (gName 1)) (tt := tYes) rfl sc_is_built.nd (pi_seq (pe_ixG (hu_of hr) (pv 0) pe_int (fun _ _ => rfl))) (blkOk_by (by kernel_rfl)) (fun _ _ _ _ _ => (pg_name (i := 1) sc_is_built.nd rfl (by first | exact Or.inl rfl | exact Or.inr rfl))) (fun _ _ _ _ _ => pts_nil) (fun _ _ _ _ _ => (pe_cal c_is_function hr rfl (pa_cons (pv 1) pa_nil)))) pa_nil)) (pe_one (pe_cal c_is_body hr rfl (pa_cons (pe_ixG (hu_of hr) (pv 0) pe_int (fun _ _ => rfl)) pa_nil))))))))
abbrev st_row_names : Stmt := topS 30
theorem sc_row_names : FnScope ["body", "found", "part", "name", "one"] ["body"] (defScope st_row_names) := ⟨rfl, rfl, rfl, by decide +kernel, rfl, by decide +kernel, by decide +kernel⟩
theorem mk_row_names {P : Program} {w : World} {K : PySem.W.Frag} {mg : Str → Option Value} {base : Heap} (T : TX w K mg) {j : Nat} {sp : Sp} {s_in_order : Sp} (c_in_order : Cal P w K mg base j "in_order" s_in_order)
    (pure_ : PureOk 1 sp (t_row_names K w s_in_order) 5) : Cal P w K mg base (j + 1) "row_names" sp := by
  obtain ⟨fd, F⟩ := T.d_row_names
  refine cal_mk F T.f_row_names sc_row_names (F.bindsN fun _ _ _ _ _ _ us hl => match us, hl with | [_], _ => rfl) pure_.len fun cdv A outer s H vs Q E hr h => ?_
  refine ⟨t_row_names K w s_in_order, PSs.nox ?_, pure_.run vs H Q E h⟩
  exact (pss_cons (ps_set (i := 1) sc_row_names.nd rfl (Or.inl rfl) (pe_lstN pa_nil))
  (pss_cons (ps_for PassesOwn.never rfl (pi_seq (pe_cal c_in_order hr rfl (pa_cons (pv 0) pa_nil))) (pg_name (i := 2) sc_row_names.nd rfl (by first | exact Or.inl rfl | exact Or.inr rfl)) (pss_one (ps_if (pt_cmpR (op_eqG (hu2_of hr)) (pe_ixG (hu_of hr) (pv 2) pe_int (fun _ _ => rfl)) pe_str (nomark _)) (pss_one (ps_expr (pe_bm PySem.F.plainAttrs_list PySem.F.slot_list_extend PySem.F.type_list_extend mt_extendG (pv 1) (pa_cons (pe_lc (own := [("name", 3), ("one", 4)]) (g := (gTup K 2 (gCons (gName 3) (gCons (gName 4) gNil)))) (tt := tYes) rfl sc_row_names.nd (pi_seq (pe_ixG (hu_of hr) (pv 2) pe_int (fun _ _ => rfl))) (blkOk_by (by kernel_rfl)) (fun _ _ _ _ _ => (pg_tup rfl (pgs_cons (pg_name (i := 3) sc_row_names.nd rfl (by first | exact Or.inl rfl | exact Or.inr rfl)) (pgs_cons (pg_name (i := 4) sc_row_names.nd rfl (by first | exact Or.inl rfl | exact Or.inr rfl)) pgs_nil)))) (fun _ _ _ _ _ => pts_nil) (fun _ _ _ _ _ => (pv 3))) pa_nil)))) pss_nil)))
  (pss_one (ps_ret (pv 1)))))
abbrev st_look_unlike : Stmt := topS 31
theorem sc_look_unlike : FnScope ["names", "at"] ["names"] (defScope st_look_unlike) := ⟨rfl, rfl, rfl, by decide +kernel, rfl, by decide +kernel, by decide +kernel⟩
theorem mk_look_unlike {P : Program} {w : World} {K : PySem.W.Frag} {mg : Str → Option Value} {base : Heap} (T : TX w K mg) {j : Nat} {sp : Sp} {s_Hidden___init__ : Sp} (c_Hidden___init__ : Xal P w K mg base j "Hidden" (He.ga K "Hidden") s_Hidden___init__)
    (pure_ : PureOkX 1 sp (tx_look_unlike K w s_Hidden___init__) 2) : CalX P w K mg base (j + 1) "look_unlike" sp := by
  obtain ⟨fd, F⟩ := T.d_look_unlike
  refine calx_mk F T.f_look_unlike sc_look_unlike (F.bindsN fun _ _ _ _ _ _ us hl => match us, hl with | [_], _ => rfl) pure_.len fun cdv A outer s H vs Q E hr h => ?_
  refine ⟨tx_look_unlike K w s_Hidden___init__ E, ?_, pure_.run vs H Q E h⟩
  exact (pss_one (ps_for (passes_of rfl) rfl (pi_range1 (by rfl) T.n_range (pa_cons (pe_callB call_lenG (by rfl) T.n_len (by decide +kernel) (pa_cons (pv 0) pa_nil)) pa_nil)) (pg_name (i := 1) sc_look_unlike.nd rfl (by first | exact Or.inl rfl | exact Or.inr rfl)) (pss_one (ps_if (pt_cmpR (op_inG (hu_of hr)) (pe_ixG (hu_of hr) (pv 0) (pv 1) (fun _ _ => rfl)) (pe_slice sl_any (pv 0) po_none (po_some (pv 1))) (by rfl)) (pss_one (ps_raiseI rfl (takes_of rfl rfl rfl rfl) c_Hidden___init__ hr rfl (pa_cons (pe_ixG (hu_of hr) (pv 0) (pv 1) (fun _ _ => rfl)) pa_nil))) pss_nil))))
abbrev st_look_named : Stmt := topS 32
theorem sc_look_named : FnScope ["part", "known", "functions", "inner", "name", "one"] ["part", "known", "functions"] (defScope st_look_named) := ⟨rfl, rfl, rfl, by decide +kernel, rfl, by decide +kernel, by decide +kernel⟩
theorem mk_look_named {P : Program} {w : World} {K : PySem.W.Frag} {mg : Str → Option Value} {base : Heap} (T : TX w K mg) {j : Nat} {sp : Sp} {s_Stranger___init__ s_look_named : Sp} (c_Stranger___init__ : Xal P w K mg base j "Stranger" (He.ga K "Stranger") s_Stranger___init__) (c_look_named : CalX P w K mg base j "look_named" s_look_named)
    (pure_ : PureOkX 3 sp (tx_look_named K w s_Stranger___init__ s_look_named) 6) : CalX P w K mg base (j + 1) "look_named" sp := by
  obtain ⟨fd, F⟩ := T.d_look_named
  refine calx_mk F T.f_look_named sc_look_named (F.bindsN fun _ _ _ _ _ _ us hl => match us, hl with | [_, _, _], _ => rfl) pure_.len fun cdv A outer s H vs Q E hr h => ?_
  refine ⟨tx_look_named K w s_Stranger___init__ s_look_named E, ?_, pure_.run vs H Q E h⟩
  exact (pss_cons (ps_if (PW.pt (pw_or (PW.pt (pw_and (pt_cmpR (op_eqG (hu2_of hr)) (pe_ixG (hu_of hr) (pv 0) pe_int (fun _ _ => rfl)) pe_str (nomark _)) (pw_and1 (pt_cmpR (op_notInG (hu_of hr)) (pe_ixG (hu_of hr) (pv 0) pe_int (fun _ _ => rfl)) (pv 1) (by rfl))))) (pw_or1 (PW.pt (pw_and (pt_cmpR (op_eqG (hu2_of hr)) (pe_ixG (hu_of hr) (pv 0) pe_int (fun _ _ => rfl)) pe_str (nomark _)) (pw_and1 (pt_cmpR (op_notInG (hu_of hr)) (pe_ixG (hu_of hr) (pv 0) pe_int (fun _ _ => rfl)) (pv 2) (by rfl)))))))) (pss_one (ps_raiseI rfl (takes_of rfl rfl rfl rfl) c_Stranger___init__ hr rfl (pa_cons (pe_ixG (hu_of hr) (pv 0) pe_int (fun _ _ => rfl)) pa_nil))) pss_nil)
  (pss_one (ps_if (pt_cmpR (op_eqG (hu2_of hr)) (pe_ixG (hu_of hr) (pv 0) pe_int (fun _ _ => rfl)) pe_str (nomark _)) (pss_cons (ps_set (i := 3) sc_look_named.nd rfl (Or.inl rfl) (pe_op op_addG (pv 1) (pe_lc (own := [("name", 4), ("one", 5)]) (g := (gTup K 2 (gCons (gName 4) (gCons (gName 5) gNil)))) (tt := tYes) rfl sc_look_named.nd (pi_seq (pe_ixG (hu_of hr) (pv 0) pe_int (fun _ _ => rfl))) (blkOk_by (by kernel_rfl)) (fun _ _ _ _ _ => (pg_tup rfl (pgs_cons (pg_name (i := 4) sc_look_named.nd rfl (by first | exact Or.inl rfl | exact Or.inr rfl)) (pgs_cons (pg_name (i := 5) sc_look_named.nd rfl (by first | exact Or.inl rfl | exact Or.inr rfl)) pgs_nil)))) (fun _ _ _ _ _ => pts_nil) (fun _ _ _ _ _ => (pv 4)))))
  (pss_cons (ps_for (passes_of rfl) rfl (pi_seq (pe_ixG (hu_of hr) (pv 0) pe_int (fun _ _ => rfl))) (pg_tup rfl (pgs_cons (pg_name (i := 4) sc_look_named.nd rfl (by first | exact Or.inl rfl | exact Or.inr rfl)) (pgs_cons (pg_name (i := 5) sc_look_named.nd rfl (by first | exact Or.inl rfl | exact Or.inr rfl)) pgs_nil))) (pss_one (ps_expr (pe_calE c_look_named hr rfl (takes_of rfl rfl rfl rfl) (pa_cons (pv 5) (pa_cons (pv 3) (pa_cons (pv 2) pa_nil)))))))
  (pss_one (ps_expr (pe_calE c_look_named hr rfl (takes_of rfl rfl rfl rfl) (pa_cons (pe_ixG (hu_of hr) (pv 0) pe_int (fun _ _ => rfl)) (pa_cons (pv 3) (pa_cons (pv 2) pa_nil)))))))) (pss_one (ps_if (pt_cmpR (op_inG (hu_of hr)) (pe_ixG (hu_of hr) (pv 0) pe_int (fun _ _ => rfl)) (pe_glob (v := .ref (He.ga K "PARTS")) rfl T.g_PARTS rfl) (by rfl)) (pss_one (ps_for (passes_of rfl) rfl (pi_seq (pe_slice sl_any (pv 0) (po_some pe_int) po_none)) (pg_name (i := 5) sc_look_named.nd rfl (by first | exact Or.inl rfl | exact Or.inr rfl)) (pss_one (ps_expr (pe_calE c_look_named hr rfl (takes_of rfl rfl rfl rfl) (pa_cons (pv 5) (pa_cons (pv 1) (pa_cons (pv 2) pa_nil)))))))) pss_nil)))))
abbrev st_looked : Stmt := topS 33
theorem sc_looked : FnScope ["thing", "functions", "name", "names", "body", "at"] ["thing"] (defScope st_looked) := ⟨rfl, rfl, rfl, by decide +kernel, rfl, by decide +kernel, by decide +kernel⟩
theorem mk_looked {P : Program} {w : World} {K : PySem.W.Frag} {mg : Str → Option Value} {base : Heap} (T : TX w K mg) {j : Nat} {sp : Sp} {s_is_built s_Twice___init__ s_look_unlike s_row_names s_look_named : Sp} (c_is_built : Cal P w K mg base j "is_built" s_is_built) (c_Twice___init__ : Xal P w K mg base j "Twice" (He.ga K "Twice") s_Twice___init__) (c_look_unlike : CalX P w K mg base j "look_unlike" s_look_unlike) (c_row_names : Cal P w K mg base j "row_names" s_row_names) (c_look_named : CalX P w K mg base j "look_named" s_look_named)
    (pure_ : PureOkX 1 sp (tx_looked K w s_is_built s_Twice___init__ s_look_unlike s_row_names s_look_named) 6) : CalX P w K mg base (j + 1) "looked" sp := by
  obtain ⟨fd, F⟩ := T.d_looked
  refine calx_mk F T.f_looked sc_looked (F.bindsN fun _ _ _ _ _ _ us hl => match us, hl with | [_], _ => rfl) pure_.len fun cdv A outer s H vs Q E hr h => ?_
  refine ⟨tx_looked K w s_is_built s_Twice___init__ s_look_unlike s_row_names s_look_named E, ?_, pure_.run vs H Q E h⟩
  exact (pss_cons (ps_if (pt_not (pt_tru (pe_cal c_is_built hr rfl (pa_cons (pv 0) pa_nil)) (by intro _; rfl))) (pss_one (ps_raiseO rfl (takes_of rfl rfl rfl rfl) T.errs.q_NoProgram T.g_NoProgram T.errs.x_NoProgram rfl)) pss_nil)
  (pss_cons (ps_setLc (i := 1) (own := [("name", 2), ("names", 3), ("body", 4)]) (g := (gTup K 3 (gCons (gName 2) (gCons (gName 3) (gCons (gName 4) gNil))))) (tt := tYes) rfl sc_looked.nd rfl rfl (sw_true rfl rfl rfl (by decide +kernel)) (pi_seq (pe_ixG (hu_of hr) (pv 0) pe_int (fun _ _ => rfl))) (blkOk_by (by kernel_rfl)) (fun _ _ _ _ _ => (pg_tup rfl (pgs_cons (pg_name (i := 2) sc_looked.nd rfl (by first | exact Or.inl rfl | exact Or.inr rfl)) (pgs_cons (pg_name (i := 3) sc_looked.nd rfl (by first | exact Or.inl rfl | exact Or.inr rfl)) (pgs_cons (pg_name (i := 4) sc_looked.nd rfl (by first | exact Or.inl rfl | exact Or.inr rfl)) pgs_nil))))) (fun _ _ _ _ _ => pts_nil) (fun _ _ _ _ _ => (pv 2)))
  (pss_cons (ps_for (passes_of rfl) rfl (pi_range1 (by rfl) T.n_range (pa_cons (pe_callB call_lenG (by rfl) T.n_len (by decide +kernel) (pa_cons (pv 1) pa_nil)) pa_nil)) (pg_name (i := 5) sc_looked.nd rfl (by first | exact Or.inl rfl | exact Or.inr rfl)) (pss_one (ps_if (pt_cmpR (op_inG (hu_of hr)) (pe_ixG (hu_of hr) (pv 1) (pv 5) (fun _ _ => rfl)) (pe_slice sl_any (pv 1) po_none (po_some (pv 5))) (by rfl)) (pss_one (ps_raiseI rfl (takes_of rfl rfl rfl rfl) c_Twice___init__ hr rfl (pa_cons (pe_ixG (hu_of hr) (pv 1) (pv 5) (fun _ _ => rfl)) pa_nil))) pss_nil)))
  (pss_cons (ps_for (passes_of rfl) rfl (pi_seq (pe_op op_addG (pe_lc (own := [("name", 2), ("names", 3), ("body", 4)]) (g := (gTup K 3 (gCons (gName 2) (gCons (gName 3) (gCons (gName 4) gNil))))) (tt := tYes) rfl sc_looked.nd (pi_seq (pe_ixG (hu_of hr) (pv 0) pe_int (fun _ _ => rfl))) (blkOk_by (by kernel_rfl)) (fun _ _ _ _ _ => (pg_tup rfl (pgs_cons (pg_name (i := 2) sc_looked.nd rfl (by first | exact Or.inl rfl | exact Or.inr rfl)) (pgs_cons (pg_name (i := 3) sc_looked.nd rfl (by first | exact Or.inl rfl | exact Or.inr rfl)) (pgs_cons (pg_name (i := 4) sc_looked.nd rfl (by first | exact Or.inl rfl | exact Or.inr rfl)) pgs_nil))))) (fun _ _ _ _ _ => pts_nil) (fun _ _ _ _ _ => (pe_tupN (pa_cons (pv 3) (pa_cons (pv 4) pa_nil))))) (pe_lstN (pa_cons (pe_tupN (pa_cons (pe_tupN pa_nil) (pa_cons (pe_ixG (hu_of hr) (pv 0) pe_int (fun _ _ => rfl)) pa_nil))) pa_nil)))) (pg_tup rfl (pgs_cons (pg_name (i := 3) sc_looked.nd rfl (by first | exact Or.inl rfl | exact Or.inr rfl)) (pgs_cons (pg_name (i := 4) sc_looked.nd rfl (by first | exact Or.inl rfl | exact Or.inr rfl)) pgs_nil))) (pss_cons (ps_expr (pe_calE c_look_unlike hr rfl (takes_of rfl rfl rfl rfl) (pa_cons (pe_op op_addG (pe_callTy (call_listG rfl) (by rfl) T.n_list (by decide +kernel) (pa_cons (pv 3) pa_nil)) (pe_cal c_row_names hr rfl (pa_cons (pv 4) pa_nil))) pa_nil)))
  (pss_one (ps_expr (pe_calE c_look_named hr rfl (takes_of rfl rfl rfl rfl) (pa_cons (pv 4) (pa_cons (pe_callTy (call_listG rfl) (by rfl) T.n_list (by decide +kernel) (pa_cons (pv 3) pa_nil)) (pa_cons (pv 1) pa_nil))))))))
  (pss_one (ps_ret (pv 0)))))))
abbrev st_law_pen : Stmt := topS 35
theorem sc_law_pen : FnScope ["_law_script"] ["_law_script"] (defScope st_law_pen) := ⟨rfl, rfl, rfl, by decide +kernel, rfl, by decide +kernel, by decide +kernel⟩
theorem mk_law_pen {P : Program} {w : World} {K : PySem.W.Frag} {mg : Str → Option Value} {base : Heap} (T : TX w K mg) {j : Nat} {sp : Sp}
    (pure_ : PureOk 1 sp (t_law_pen K w ) 1) : Cal P w K mg base (j + 1) "_law_pen" sp := by
  obtain ⟨fd, F⟩ := T.d_law_pen
  refine cal_mk F T.f_law_pen sc_law_pen (F.bindsN fun _ _ _ _ _ _ us hl => match us, hl with | [_], _ => rfl) pure_.len fun cdv A outer s H vs Q E hr h => ?_
  refine ⟨t_law_pen K w , PSs.nox ?_, pure_.run vs H Q E h⟩
  exact (pss_one (ps_ret (pe_lstN (pa_cons (pe_callTy (call_listG rfl) (by rfl) T.n_list (by decide +kernel) (pa_cons (pe_slice sl_any (pv 0) po_none (po_some pe_int)) pa_nil)) (pa_cons pe_int (pa_cons pe_int pa_nil))))))
abbrev st_law_draw : Stmt := topS 36
theorem sc_law_draw : FnScope ["_law_pen_here", "_law_many", "_law_digit", "_law_at", "_law_cell", "_law_prime", "_law_number_here"] ["_law_pen_here", "_law_many"] (defScope st_law_draw) := ⟨rfl, rfl, rfl, by decide +kernel, rfl, by decide +kernel, by decide +kernel⟩
theorem mk_law_draw {P : Program} {w : World} {K : PySem.W.Frag} {mg : Str → Option Value} {base : Heap} (T : TX w K mg) {j : Nat} {sp : Sp}
    (pure_ : PureOk 2 sp (t_law_draw K w ) 7) : Cal P w K mg base (j + 1) "_law_draw" sp := by
  obtain ⟨fd, F⟩ := T.d_law_draw
  refine cal_mk F T.f_law_draw sc_law_draw (F.bindsN fun _ _ _ _ _ _ us hl => match us, hl with | [_, _], _ => rfl) pure_.len fun cdv A outer s H vs Q E hr h => ?_
  refine ⟨t_law_draw K w , PSs.nox ?_, pure_.run vs H Q E h⟩
  exact (pss_cons (ps_if (pt_cmpR op_gt (pe_ixG (hu_of hr) (pv 0) pe_int (fun _ _ => rfl)) pe_int (nomark _)) (pss_cons (ps_set (i := 2) sc_law_draw.nd rfl (Or.inl rfl) (pe_op op_mod (pe_ixG (hu_of hr) (pv 0) pe_int (fun _ _ => rfl)) (pv 1)))
  (pss_cons (ps_asg (pe_op op_fdivW (pe_ixG (hu_of hr) (pv 0) pe_int (fun _ _ => rfl)) (pv 1)) (pg_sub (pv 0) pe_int (set_any (hu_of hr))))
  (pss_one (ps_ret (pv 2))))) pss_nil)
  (pss_cons (ps_set (i := 3) sc_law_draw.nd rfl (Or.inl rfl) (pe_ixG (hu_of hr) (pv 0) pe_int (fun _ _ => rfl)))
  (pss_cons (ps_asg (pe_op op_addG (pv 3) pe_int) (pg_sub (pv 0) pe_int (set_any (hu_of hr))))
  (pss_cons (ps_set (i := 4) sc_law_draw.nd rfl (Or.inl rfl) (pe_ixG (hu_of hr) (pe_op op_addG (pe_ixG (hu_of hr) (pv 0) pe_int (fun _ _ => rfl)) (pe_lstN (pa_cons pe_int pa_nil))) (pe_op op_mod (pv 3) (pe_callB (call_max2 rfl) (by rfl) T.n_max (by decide +kernel) (pa_cons pe_int (pa_cons (pe_callB call_lenG (by rfl) T.n_len (by decide +kernel) (pa_cons (pe_ixG (hu_of hr) (pv 0) pe_int (fun _ _ => rfl)) pa_nil)) pa_nil)))) (fun _ _ => rfl)))
  (pss_cons (ps_if (PW.pt (pw_and (pt_cmpR op_lt (pv 3) (pe_callB call_lenG (by rfl) T.n_len (by decide +kernel) (pa_cons (pe_ixG (hu_of hr) (pv 0) pe_int (fun _ _ => rfl)) pa_nil)) (nomark _)) (pw_and1 (pt_cmpR op_ge (pe_callB call_abs (by rfl) T.n_abs (by decide +kernel) (pa_cons (pv 4) pa_nil)) (pe_op op_pow pe_int pe_int) (nomark _))))) (pss_cons (ps_asg (pe_op op_fdivW (pe_callB call_abs (by rfl) T.n_abs (by decide +kernel) (pa_cons (pv 4) pa_nil)) (pv 1)) (pg_sub (pv 0) pe_int (set_any (hu_of hr))))
  (pss_one (ps_ret (pe_op op_mod (pe_callB call_abs (by rfl) T.n_abs (by decide +kernel) (pa_cons (pv 4) pa_nil)) (pv 1))))) pss_nil)
  (pss_cons (ps_set (i := 5) sc_law_draw.nd rfl (Or.inl rfl) (pe_ixG (hu_of hr) (pe_lstN (pa_cons pe_int (pa_cons pe_int (pa_cons pe_int (pa_cons pe_int (pa_cons pe_int (pa_cons pe_int (pa_cons pe_int pa_nil)))))))) (pe_op op_mod (pv 3) pe_int) (fun _ _ => rfl)))
  (pss_cons (ps_set (i := 6) sc_law_draw.nd rfl (Or.inl rfl) (pe_op op_mod (pe_op op_mulG (pe_op op_addG (pe_op op_addG (pe_op op_mod (pv 4) pe_int) (pe_op op_mulG pe_int (pv 3))) pe_int) pe_int) (pv 5)))
  (pss_cons (ps_set (i := 6) sc_law_draw.nd rfl (Or.inl rfl) (pe_op op_mod (pe_op op_addG (pe_op op_addG (pe_op op_mulG (pv 6) (pv 6)) (pe_op op_mulG pe_int (pv 6))) (pv 3)) pe_int))
  (pss_cons (ps_set (i := 6) sc_law_draw.nd rfl (Or.inl rfl) (pe_op op_mod (pe_op op_mulG (pv 6) pe_int) pe_int))
  (pss_cons (ps_if (pt_cmpR op_gt (pv 1) (pe_op op_pow pe_int pe_int) (nomark _)) (pss_one (ps_set (i := 6) sc_law_draw.nd rfl (Or.inl rfl) (pe_op op_pow (pv 6) pe_int))) pss_nil)
  (pss_one (ps_ret (pe_op op_mod (pe_op op_fdivW (pv 6) pe_int) (pv 1))))))))))))))
abbrev st_law_names : Stmt := topS 37
theorem sc_law_names : FnScope ["_law_pen_here", "_law_many", "_law_letters", "_law_word", "_law_k", "_law_at", "_law_first", "_law_by"] ["_law_pen_here", "_law_many"] (defScope st_law_names) := ⟨rfl, rfl, rfl, by decide +kernel, rfl, by decide +kernel, by decide +kernel⟩
theorem mk_law_names {P : Program} {w : World} {K : PySem.W.Frag} {mg : Str → Option Value} {base : Heap} (T : TX w K mg) {j : Nat} {sp : Sp} {s_law_draw : Sp} (c_law_draw : Cal P w K mg base j "_law_draw" s_law_draw)
    (pure_ : PureOk 2 sp (t_law_names K w s_law_draw) 8) : Cal P w K mg base (j + 1) "_law_names" sp := by
  obtain ⟨fd, F⟩ := T.d_law_names
  refine cal_mk F T.f_law_names sc_law_names (F.bindsN fun _ _ _ _ _ _ us hl => match us, hl with | [_, _], _ => rfl) pure_.len fun cdv A outer s H vs Q E hr h => ?_
  refine ⟨t_law_names K w s_law_draw, PSs.nox ?_, pure_.run vs H Q E h⟩
  exact (pss_cons (ps_set (i := 2) sc_law_names.nd rfl (Or.inr rfl) pe_str)
  (pss_cons (ps_set (i := 3) sc_law_names.nd rfl (Or.inr rfl) (pe_join pe_str (pe_lc (own := [("_law_k", 4)]) (g := (gName 4)) (tt := tYes) rfl sc_law_names.nd (pi_range1 (by rfl) T.n_range (pa_cons (pe_op op_addG pe_int (pe_cal c_law_draw hr rfl (pa_cons (pv 0) (pa_cons pe_int pa_nil)))) pa_nil)) (blkOk_by (by kernel_rfl)) (fun _ _ _ _ _ => (pg_name (i := 4) sc_law_names.nd rfl (by first | exact Or.inl rfl | exact Or.inr rfl))) (fun _ _ _ _ _ => pts_nil) (fun _ _ _ _ _ => (pe_ixG (hu_of hr) (pv 2) (pe_cal c_law_draw hr rfl (pa_cons (pv 0) (pa_cons pe_int pa_nil))) (fun _ _ => rfl))))))
  (pss_cons (ps_set (i := 5) sc_law_names.nd rfl (Or.inr rfl) (pe_cal c_law_draw hr rfl (pa_cons (pv 0) (pa_cons (pe_callB call_lenG (by rfl) T.n_len (by decide +kernel) (pa_cons (pv 3) pa_nil)) pa_nil))))
  (pss_cons (ps_set (i := 6) sc_law_names.nd rfl (Or.inr rfl) (pe_cal c_law_draw hr rfl (pa_cons (pv 0) (pa_cons pe_int pa_nil))))
  (pss_cons (ps_set (i := 7) sc_law_names.nd rfl (Or.inr rfl) (pe_ixG (hu_of hr) (pe_lstN (pa_cons pe_int (pa_cons pe_int (pa_cons pe_int (pa_cons pe_int (pa_cons pe_int (pa_cons pe_int pa_nil))))))) (pe_cal c_law_draw hr rfl (pa_cons (pv 0) (pa_cons pe_int pa_nil))) (fun _ _ => rfl)))
  (pss_one (ps_ret (pe_lc (own := [("_law_k", 4)]) (g := (gName 4)) (tt := tYes) rfl sc_law_names.nd (pi_range1 (by rfl) T.n_range (pa_cons (pv 1) pa_nil)) (blkOk_by (by kernel_rfl)) (fun _ _ _ _ _ => (pg_name (i := 4) sc_law_names.nd rfl (by first | exact Or.inl rfl | exact Or.inr rfl))) (fun _ _ _ _ _ => pts_nil) (fun _ _ _ _ _ => (pe_op op_addG (pe_op op_addG (pe_slice sl_any (pv 3) po_none (po_some (pv 5))) (pe_ixG (hu_of hr) (pv 2) (pe_op op_mod (pe_op op_addG (pv 6) (pe_op op_mulG (pv 7) (pv 4))) pe_int) (fun _ _ => rfl))) (pe_slice sl_any (pv 3) (po_some (pe_op op_addG (pv 5) pe_int)) po_none)))))))))))
abbrev st_law_number : Stmt := topS 38
theorem sc_law_number : FnScope ["_law_pen_here", "_law_way"] ["_law_pen_here"] (defScope st_law_number) := ⟨rfl, rfl, rfl, by decide +kernel, rfl, by decide +kernel, by decide +kernel⟩
theorem mk_law_number {P : Program} {w : World} {K : PySem.W.Frag} {mg : Str → Option Value} {base : Heap} (T : TX w K mg) {j : Nat} {sp : Sp} {s_law_draw : Sp} (c_law_draw : Cal P w K mg base j "_law_draw" s_law_draw)
    (pure_ : PureOk 1 sp (t_law_number K w s_law_draw) 2) : Cal P w K mg base (j + 1) "_law_number" sp := by
  obtain ⟨fd, F⟩ := T.d_law_number
  refine cal_mk F T.f_law_number sc_law_number (F.bindsN fun _ _ _ _ _ _ us hl => match us, hl with | [_], _ => rfl) pure_.len fun cdv A outer s H vs Q E hr h => ?_
  refine ⟨t_law_number K w s_law_draw, PSs.nox ?_, pure_.run vs H Q E h⟩
  exact (pss_cons (ps_set (i := 1) sc_law_number.nd rfl (Or.inl rfl) (pe_cal c_law_draw hr rfl (pa_cons (pv 0) (pa_cons pe_int pa_nil))))
  (pss_cons (ps_if (pt_cmpR (op_eqG (hu2_of hr)) (pv 1) pe_int (nomark _)) (pss_one (ps_ret (pe_op op_addG (pe_op op_sub (pe_cal c_law_draw hr rfl (pa_cons (pv 0) (pa_cons (pe_op op_sub (pe_op op_mulG pe_int (pe_op op_pow pe_int pe_int)) pe_int) pa_nil))) (pe_op op_pow pe_int pe_int)) pe_int))) pss_nil)
  (pss_cons (ps_if (pt_cmpR (op_eqG (hu2_of hr)) (pv 1) pe_int (nomark _)) (pss_one (ps_ret (pe_op op_sub (pe_cal c_law_draw hr rfl (pa_cons (pv 0) (pa_cons (pe_op op_mulG pe_int (pe_op op_pow pe_int pe_int)) pa_nil))) (pe_op op_pow pe_int pe_int)))) pss_nil)
  (pss_one (ps_ret (pe_op op_sub (pe_cal c_law_draw hr rfl (pa_cons (pv 0) (pa_cons pe_int pa_nil))) (pe_ixG (hu_of hr) (pe_lstN (pa_cons pe_int (pa_cons pe_int (pa_cons pe_int (pa_cons pe_int (pa_cons pe_int (pa_cons pe_int (pa_cons pe_int pa_nil)))))))) (pv 1) (fun _ _ => rfl))))))))
abbrev st_law_leaf : Stmt := topS 39
theorem sc_law_leaf : FnScope ["_law_pen_here", "_law_world", "_law_scope", "_law_want", "_law_way"] ["_law_pen_here", "_law_world", "_law_scope", "_law_want"] (defScope st_law_leaf) := ⟨rfl, rfl, rfl, by decide +kernel, rfl, by decide +kernel, by decide +kernel⟩
theorem mk_law_leaf {P : Program} {w : World} {K : PySem.W.Frag} {mg : Str → Option Value} {base : Heap} (T : TX w K mg) {j : Nat} {sp : Sp} {s_law_draw s_law_number : Sp} (c_law_draw : Cal P w K mg base j "_law_draw" s_law_draw) (c_law_number : Cal P w K mg base j "_law_number" s_law_number)
    (pure_ : PureOk 4 sp (t_law_leaf K w s_law_draw s_law_number) 5) : Cal P w K mg base (j + 1) "_law_leaf" sp := by
  obtain ⟨fd, F⟩ := T.d_law_leaf
  refine cal_mk F T.f_law_leaf sc_law_leaf (F.bindsN fun _ _ _ _ _ _ us hl => match us, hl with | [_, _, _, _], _ => rfl) pure_.len fun cdv A outer s H vs Q E hr h => ?_
  refine ⟨t_law_leaf K w s_law_draw s_law_number, PSs.nox ?_, pure_.run vs H Q E h⟩
  exact (pss_cons (ps_set (i := 4) sc_law_leaf.nd rfl (Or.inl rfl) (pe_cal c_law_draw hr rfl (pa_cons (pv 0) (pa_cons pe_int pa_nil))))
  (pss_cons (ps_if (PW.pt (pw_and (pt_cmpR (op_neG (hu2_of hr)) (pv 2) (pe_lstN pa_nil) (nomark _)) (pw_and1 (pt_cmpR op_gt (pv 4) pe_int (nomark _))))) (pss_one (ps_ret (pe_tupN (pa_cons pe_str (pa_cons (pe_ixG (hu_of hr) (pv 2) (pe_cal c_law_draw hr rfl (pa_cons (pv 0) (pa_cons (pe_callB call_lenG (by rfl) T.n_len (by decide +kernel) (pa_cons (pv 2) pa_nil)) pa_nil))) (fun _ _ => rfl)) pa_nil))))) pss_nil)
  (pss_cons (ps_if (PW.pt (pw_and (pt_cmpR (op_neG (hu2_of hr)) (pv 1) (pe_lstN pa_nil) (nomark _)) (pw_and (pt_cmpR (op_eqG (hu2_of hr)) (pv 3) pe_str (nomark _)) (pw_and1 (pt_cmpR (op_eqG (hu2_of hr)) (pv 4) pe_int (nomark _)))))) (pss_one (ps_ret (pe_tupN (pa_cons pe_str (pa_cons (pe_ixG (hu_of hr) (pe_ixG (hu_of hr) (pv 1) (pe_cal c_law_draw hr rfl (pa_cons (pv 0) (pa_cons (pe_callB call_lenG (by rfl) T.n_len (by decide +kernel) (pa_cons (pv 1) pa_nil)) pa_nil))) (fun _ _ => rfl)) pe_int (fun _ _ => rfl)) pa_nil))))) pss_nil)
  (pss_one (ps_ret (pe_tupN (pa_cons pe_str (pa_cons (pe_cal c_law_number hr rfl (pa_cons (pv 0) pa_nil)) pa_nil))))))))
abbrev st_law_fits : Stmt := topS 40
theorem sc_law_fits : FnScope ["_law_room", "_law_many"] ["_law_room", "_law_many"] (defScope st_law_fits) := ⟨rfl, rfl, rfl, by decide +kernel, rfl, by decide +kernel, by decide +kernel⟩
theorem mk_law_fits {P : Program} {w : World} {K : PySem.W.Frag} {mg : Str → Option Value} {base : Heap} (T : TX w K mg) {j : Nat} {sp : Sp}
    (pure_ : PureOk 2 sp (t_law_fits K w ) 2) : Cal P w K mg base (j + 1) "_law_fits" sp := by
  obtain ⟨fd, F⟩ := T.d_law_fits
  refine cal_mk F T.f_law_fits sc_law_fits (F.bindsN fun _ _ _ _ _ _ us hl => match us, hl with | [_, _], _ => rfl) pure_.len fun cdv A outer s H vs Q E hr h => ?_
  refine ⟨t_law_fits K w , PSs.nox ?_, pure_.run vs H Q E h⟩
  exact (pss_cons (ps_if (pt_cmpR op_lt (pe_ixG (hu_of hr) (pe_ixG (hu_of hr) (pv 0) pe_int (fun _ _ => rfl)) pe_int (fun _ _ => rfl)) (pv 1) (nomark _)) (pss_one (ps_ret pe_bl)) pss_nil)
  (pss_cons (ps_asg (pe_op op_sub (pe_ixG (hu_of hr) (pe_ixG (hu_of hr) (pv 0) pe_int (fun _ _ => rfl)) pe_int (fun _ _ => rfl)) (pv 1)) (pg_sub (pe_ixG (hu_of hr) (pv 0) pe_int (fun _ _ => rfl)) pe_int (set_any (hu_of hr))))
  (pss_one (ps_ret pe_bl))))
abbrev st_law_call : Stmt := topS 41
theorem sc_law_call : FnScope ["_law_pen_here", "_law_world", "_law_scope", "_law_room", "_law_want", "_law_name", "_law_wanted", "_law_many", "_law_part_here", "_law_inner", "_law_k"] ["_law_pen_here", "_law_world", "_law_scope", "_law_room", "_law_want"] (defScope st_law_call) := ⟨rfl, rfl, rfl, by decide +kernel, rfl, by decide +kernel, by decide +kernel⟩
theorem mk_law_call {P : Program} {w : World} {K : PySem.W.Frag} {mg : Str → Option Value} {base : Heap} (T : TX w K mg) {j : Nat} {sp : Sp} {s_law_draw s_law_fits s_law_leaf s_law_part : Sp} (c_law_draw : Cal P w K mg base j "_law_draw" s_law_draw) (c_law_fits : Cal P w K mg base j "_law_fits" s_law_fits) (c_law_leaf : Cal P w K mg base j "_law_leaf" s_law_leaf) (c_law_part : Cal P w K mg base j "_law_part" s_law_part)
    (pure_ : PureOk 5 sp (t_law_call K w s_law_draw s_law_fits s_law_leaf s_law_part) 11) : Cal P w K mg base (j + 1) "_law_call" sp := by
  obtain ⟨fd, F⟩ := T.d_law_call
  refine cal_mk F T.f_law_call sc_law_call (F.bindsN fun _ _ _ _ _ _ us hl => match us, hl with | [_, _, _, _, _], _ => rfl) pure_.len fun cdv A outer s H vs Q E hr h => ?_
  refine ⟨t_law_call K w s_law_draw s_law_fits s_law_leaf s_law_part, PSs.nox ?_, pure_.run vs H Q E h⟩
  exact (pss_cons (ps_asg (pe_ixG (hu_of hr) (pv 1) (pe_cal c_law_draw hr rfl (pa_cons (pv 0) (pa_cons (pe_callB call_lenG (by rfl) T.n_len (by decide +kernel) (pa_cons (pv 1) pa_nil)) pa_nil))) (fun _ _ => rfl)) (pg_tup rfl (pgs_cons (pg_name (i := 5) sc_law_call.nd rfl (by first | exact Or.inl rfl | exact Or.inr rfl)) (pgs_cons (pg_name (i := 6) sc_law_call.nd rfl (by first | exact Or.inl rfl | exact Or.inr rfl)) pgs_nil))))
  (pss_cons (ps_set (i := 7) sc_law_call.nd rfl (Or.inl rfl) (pe_callB (call_max2 rfl) (by rfl) T.n_max (by decide +kernel) (pa_cons pe_int (pa_cons (pe_op op_addG (pv 6) (pe_ixG (hu_of hr) (pe_lstN (pa_cons pe_int (pa_cons pe_int (pa_cons pe_int (pa_cons pe_int (pa_cons pe_int (pa_cons pe_int (pa_cons pe_int (pa_cons (pe_un un_neg pe_int) pa_nil))))))))) (pe_cal c_law_draw hr rfl (pa_cons (pv 0) (pa_cons pe_int pa_nil))) (fun _ _ => rfl))) pa_nil))))
  (pss_cons (ps_if (pt_not (pt_tru (pe_cal c_law_fits hr rfl (pa_cons (pv 3) (pa_cons (pe_op op_mulG pe_int (pv 7)) pa_nil))) (by intro _; rfl))) (pss_one (ps_ret (pe_cal c_law_leaf hr rfl (pa_cons (pv 0) (pa_cons (pv 1) (pa_cons (pv 2) (pa_cons (pv 4) pa_nil))))))) pss_nil)
  (pss_cons (ps_set (i := 8) sc_law_call.nd rfl (Or.inl rfl) (pe_tupN (pa_cons pe_str (pa_cons (pv 5) pa_nil))))
  (pss_cons (ps_set (i := 9) sc_law_call.nd rfl (Or.inl rfl) (pe_lstN (pa_cons (pe_op op_sub (pe_ixG (hu_of hr) (pv 3) pe_int (fun _ _ => rfl)) (pv 7)) (pa_cons (pe_ixG (hu_of hr) (pv 3) pe_int (fun _ _ => rfl)) (pa_cons (pe_ixG (hu_of hr) (pv 3) pe_int (fun _ _ => rfl)) pa_nil)))))
  (pss_cons (ps_for PassesOwn.never rfl (pi_range1 (by rfl) T.n_range (pa_cons (pv 7) pa_nil)) (pg_name (i := 10) sc_law_call.nd rfl (by first | exact Or.inl rfl | exact Or.inr rfl)) (pss_one (ps_set (i := 8) sc_law_call.nd rfl (Or.inl rfl) (pe_tupN (pa_cons pe_str (pa_cons (pv 8) (pa_cons (pe_cal c_law_part hr rfl (pa_cons (pv 0) (pa_cons (pv 1) (pa_cons (pv 2) (pa_cons (pv 9) (pa_cons (pe_ixG (hu_of hr) (pe_lstN (pa_cons pe_str (pa_cons pe_str pa_nil))) (pe_op op_fdivW (pe_cal c_law_draw hr rfl (pa_cons (pv 0) (pa_cons pe_int pa_nil))) pe_int) (fun _ _ => rfl)) pa_nil)))))) pa_nil)))))))
  (pss_one (ps_ret (pv 8)))))))))
abbrev st_law_let : Stmt := topS 42
theorem sc_law_let : FnScope ["_law_pen_here", "_law_world", "_law_scope", "_law_room", "_law_want", "_law_many", "_law_names_here", "_law_k", "_law_rows", "_law_name", "_law_kind"] ["_law_pen_here", "_law_world", "_law_scope", "_law_room", "_law_want"] (defScope st_law_let) := ⟨rfl, rfl, rfl, by decide +kernel, rfl, by decide +kernel, by decide +kernel⟩
theorem mk_law_let {P : Program} {w : World} {K : PySem.W.Frag} {mg : Str → Option Value} {base : Heap} (T : TX w K mg) {j : Nat} {sp : Sp} {s_law_draw s_law_fits s_law_leaf s_law_part : Sp} (c_law_draw : Cal P w K mg base j "_law_draw" s_law_draw) (c_law_fits : Cal P w K mg base j "_law_fits" s_law_fits) (c_law_leaf : Cal P w K mg base j "_law_leaf" s_law_leaf) (c_law_part : Cal P w K mg base j "_law_part" s_law_part)
    (pure_ : PureOk 5 sp (t_law_let K w s_law_draw s_law_fits s_law_leaf s_law_part) 11) : Cal P w K mg base (j + 1) "_law_let" sp := by
  obtain ⟨fd, F⟩ := T.d_law_let
  refine cal_mk F T.f_law_let sc_law_let (F.bindsN fun _ _ _ _ _ _ us hl => match us, hl with | [_, _, _, _, _], _ => rfl) pure_.len fun cdv A outer s H vs Q E hr h => ?_
  refine ⟨t_law_let K w s_law_draw s_law_fits s_law_leaf s_law_part, PSs.nox ?_, pure_.run vs H Q E h⟩
  exact (pss_cons (ps_set (i := 5) sc_law_let.nd rfl (Or.inl rfl) (pe_ixG (hu_of hr) (pe_lstN (pa_cons pe_int (pa_cons pe_int (pa_cons pe_int (pa_cons pe_int (pa_cons pe_int (pa_cons pe_int (pa_cons pe_int pa_nil)))))))) (pe_cal c_law_draw hr rfl (pa_cons (pv 0) (pa_cons pe_int pa_nil))) (fun _ _ => rfl)))
  (pss_cons (ps_if (PW.pt (pw_or (pt_cmpR op_lt (pe_callB call_lenG (by rfl) T.n_len (by decide +kernel) (pa_cons (pe_ixG (hu_of hr) (pv 3) pe_int (fun _ _ => rfl)) pa_nil)) (pv 5) (nomark _)) (pw_or1 (pt_not (pt_tru (pe_cal c_law_fits hr rfl (pa_cons (pv 3) (pa_cons (pe_op op_addG (pv 5) pe_int) pa_nil))) (by intro _; rfl)))))) (pss_one (ps_ret (pe_cal c_law_leaf hr rfl (pa_cons (pv 0) (pa_cons (pv 1) (pa_cons (pv 2) (pa_cons (pv 4) pa_nil))))))) pss_nil)
  (pss_cons (ps_setLc (i := 6) (own := [("_law_k", 7)]) (g := (gName 7)) (tt := tYes) rfl sc_law_let.nd rfl rfl (sw_true rfl rfl rfl (by decide +kernel)) (pi_range1 (by rfl) T.n_range (pa_cons (pv 5) pa_nil)) (blkOk_by (by kernel_rfl)) (fun _ _ _ _ _ => (pg_name (i := 7) sc_law_let.nd rfl (by first | exact Or.inl rfl | exact Or.inr rfl))) (fun _ _ _ _ _ => pts_nil) (fun _ _ _ _ _ => (pe_bm0 PySem.F.plainAttrs_list PySem.F.slot_list_pop PySem.F.type_list_pop mt_popG (pe_ixG (hu_of hr) (pv 3) pe_int (fun _ _ => rfl)))))
  (pss_cons (ps_set (i := 8) sc_law_let.nd rfl (Or.inl rfl) (pe_lstN pa_nil))
  (pss_cons (ps_for PassesOwn.never rfl (pi_seq (pv 6)) (pg_name (i := 9) sc_law_let.nd rfl (by first | exact Or.inl rfl | exact Or.inr rfl)) (pss_cons (ps_set (i := 10) sc_law_let.nd rfl (Or.inl rfl) (pe_ixG (hu_of hr) (pe_lstN (pa_cons pe_str (pa_cons pe_str (pa_cons pe_str pa_nil)))) (pe_cal c_law_draw hr rfl (pa_cons (pv 0) (pa_cons pe_int pa_nil))) (fun _ _ => rfl)))
  (pss_one (ps_expr (pe_bm PySem.F.plainAttrs_list PySem.F.slot_list_append PySem.F.type_list_append mt_appendG (pv 8) (pa_cons (pe_tupN (pa_cons (pv 9) (pa_cons (pe_cal c_law_part hr rfl (pa_cons (pv 0) (pa_cons (pv 1) (pa_cons (pe_op op_addG (pv 2) (pv 6)) (pa_cons (pv 3) (pa_cons (pv 10) pa_nil)))))) pa_nil))) pa_nil))))))
  (pss_one (ps_ret (pe_tupN (pa_cons pe_str (pa_cons (pe_callTy call_tupleG (by rfl) T.n_tuple (by decide +kernel) (pa_cons (pv 8) pa_nil)) (pa_cons (pe_cal c_law_part hr rfl (pa_cons (pv 0) (pa_cons (pv 1) (pa_cons (pe_op op_addG (pv 2) (pv 6)) (pa_cons (pv 3) (pa_cons (pv 4) pa_nil)))))) pa_nil)))))))))))
abbrev st_law_part : Stmt := topS 43
theorem sc_law_part : FnScope ["_law_pen_here", "_law_world", "_law_scope", "_law_room", "_law_want", "_law_words", "_law_word", "_law_inner", "_law_one", "_law_other"] ["_law_pen_here", "_law_world", "_law_scope", "_law_room", "_law_want"] (defScope st_law_part) := ⟨rfl, rfl, rfl, by decide +kernel, rfl, by decide +kernel, by decide +kernel⟩
theorem mk_law_part {P : Program} {w : World} {K : PySem.W.Frag} {mg : Str → Option Value} {base : Heap} (T : TX w K mg) {j : Nat} {sp : Sp} {s_law_draw s_law_leaf s_law_call s_law_let s_law_fits s_law_part : Sp} (c_law_draw : Cal P w K mg base j "_law_draw" s_law_draw) (c_law_leaf : Cal P w K mg base j "_law_leaf" s_law_leaf) (c_law_call : Cal P w K mg base j "_law_call" s_law_call) (c_law_let : Cal P w K mg base j "_law_let" s_law_let) (c_law_fits : Cal P w K mg base j "_law_fits" s_law_fits) (c_law_part : Cal P w K mg base j "_law_part" s_law_part)
    (pure_ : PureOk 5 sp (t_law_part K w s_law_draw s_law_leaf s_law_call s_law_let s_law_fits s_law_part) 10) : Cal P w K mg base (j + 1) "_law_part" sp := by
  obtain ⟨fd, F⟩ := T.d_law_part
  refine cal_mk F T.f_law_part sc_law_part (F.bindsN fun _ _ _ _ _ _ us hl => match us, hl with | [_, _, _, _, _], _ => rfl) pure_.len fun cdv A outer s H vs Q E hr h => ?_
  refine ⟨t_law_part K w s_law_draw s_law_leaf s_law_call s_law_let s_law_fits s_law_part, PSs.nox ?_, pure_.run vs H Q E h⟩
  exact (pss_cons (ps_set (i := 5) sc_law_part.nd rfl (Or.inl rfl) (pe_dispN (pps_cons (pe_cl pe_str) (pe_cl pe_str) pps_nil) (by rfl) (by rfl) (fun z => by cases z) (by decide)))
  (pss_cons (ps_asg pe_str (pg_sub (pv 5) pe_str (set_any (hu_of hr))))
  (pss_cons (ps_asg pe_str (pg_sub (pv 5) pe_str (set_any (hu_of hr))))
  (pss_cons (ps_set (i := 6) sc_law_part.nd rfl (Or.inl rfl) (pe_ixG (hu_of hr) (pe_splitG (pe_ixG (hu_of hr) (pv 5) (pv 4) (fun _ _ => rfl)) pe_str) (pe_cal c_law_draw hr rfl (pa_cons (pv 0) (pa_cons pe_int pa_nil))) (fun _ _ => rfl)))
  (pss_cons (ps_set (i := 7) sc_law_part.nd rfl (Or.inl rfl) (pe_lstN (pa_cons (pe_op op_sub (pe_ixG (hu_of hr) (pv 3) pe_int (fun _ _ => rfl)) pe_int) (pa_cons (pe_ixG (hu_of hr) (pv 3) pe_int (fun _ _ => rfl)) (pa_cons (pe_ixG (hu_of hr) (pv 3) pe_int (fun _ _ => rfl)) pa_nil)))))
  (pss_cons (ps_if (PW.pt (pw_or (pt_cmpR op_lt (pe_ixG (hu_of hr) (pv 3) pe_int (fun _ _ => rfl)) pe_int (nomark _)) (pw_or (pt_cmpR (op_eqG (hu2_of hr)) (pv 6) pe_str (nomark _)) (pw_or1 (PW.pt (pw_and (pt_cmpR (op_eqG (hu2_of hr)) (pv 6) pe_str (nomark _)) (pw_and1 (PW.pt (pw_or (pt_cmpR (op_eqG (hu2_of hr)) (pv 1) (pe_lstN pa_nil) (nomark _)) (pw_or1 (pt_cmpR op_lt (pe_ixG (hu_of hr) (pv 3) pe_int (fun _ _ => rfl)) pe_int (nomark _)))))))))))) (pss_one (ps_ret (pe_cal c_law_leaf hr rfl (pa_cons (pv 0) (pa_cons (pv 1) (pa_cons (pv 2) (pa_cons (pv 4) pa_nil))))))) pss_nil)
  (pss_cons (ps_if (pt_cmpR (op_eqG (hu2_of hr)) (pv 6) pe_str (nomark _)) (pss_one (ps_ret (pe_cal c_law_call hr rfl (pa_cons (pv 0) (pa_cons (pv 1) (pa_cons (pv 2) (pa_cons (pv 7) (pa_cons (pv 4) pa_nil)))))))) pss_nil)
  (pss_cons (ps_if (pt_cmpR (op_eqG (hu2_of hr)) (pv 6) pe_str (nomark _)) (pss_one (ps_ret (pe_cal c_law_let hr rfl (pa_cons (pv 0) (pa_cons (pv 1) (pa_cons (pv 2) (pa_cons (pv 7) (pa_cons (pv 4) pa_nil)))))))) pss_nil)
  (pss_cons (ps_if (pt_not (pt_tru (pe_cal c_law_fits hr rfl (pa_cons (pv 3) (pa_cons (pe_ixG (hu_of hr) (pe_dispN (pps_cons (pe_cl pe_str) (pe_cl pe_int) (pps_cons (pe_cl pe_str) (pe_cl pe_int) (pps_cons (pe_cl pe_str) (pe_cl pe_int) (pps_cons (pe_cl pe_str) (pe_cl pe_int) pps_nil)))) (by rfl) (by rfl) (fun z => by cases z) (by decide)) (pv 6) (fun _ _ => rfl)) pa_nil))) (by intro _; rfl))) (pss_one (ps_ret (pe_cal c_law_leaf hr rfl (pa_cons (pv 0) (pa_cons (pv 1) (pa_cons (pv 2) (pa_cons (pv 4) pa_nil))))))) pss_nil)
  (pss_cons (ps_if (pt_cmpR (op_eqG (hu2_of hr)) (pv 6) pe_str (nomark _)) (pss_one (ps_ret (pe_tupN (pa_cons (pe_ixG (hu_of hr) (pe_lstN (pa_cons pe_str (pa_cons pe_str pa_nil))) (pe_cal c_law_draw hr rfl (pa_cons (pv 0) (pa_cons pe_int pa_nil))) (fun _ _ => rfl)) (pa_cons (pe_cal c_law_part hr rfl (pa_cons (pv 0) (pa_cons (pv 1) (pa_cons (pv 2) (pa_cons (pv 7) (pa_cons pe_str pa_nil)))))) pa_nil))))) pss_nil)
  (pss_cons (ps_set (i := 8) sc_law_part.nd rfl (Or.inl rfl) (pe_cal c_law_part hr rfl (pa_cons (pv 0) (pa_cons (pv 1) (pa_cons (pv 2) (pa_cons (pv 7) (pa_cons (pe_ixG (hu_of hr) (pe_lstN (pa_cons pe_str (pa_cons pe_str pa_nil))) (pe_callTy call_int1 (by rfl) T.n_int (by decide +kernel) (pa_cons (pe_cmpR (op_eqG (hu2_of hr)) (pv 6) pe_str (nomark _)) pa_nil)) (fun _ _ => rfl)) pa_nil)))))))
  (pss_cons (ps_set (i := 9) sc_law_part.nd rfl (Or.inl rfl) (pe_cal c_law_part hr rfl (pa_cons (pv 0) (pa_cons (pv 1) (pa_cons (pv 2) (pa_cons (pv 7) (pa_cons (pe_ixG (hu_of hr) (pe_dispN (pps_cons (pe_cl pe_str) (pe_cl pe_str) (pps_cons (pe_cl pe_str) (pe_cl (pv 4)) (pps_cons (pe_cl pe_str) (pe_cl pe_str) pps_nil))) (by rfl) (by rfl) (fun z => by cases z) (by decide)) (pv 6) (fun _ _ => rfl)) pa_nil)))))))
  (pss_cons (ps_if (pt_cmpR (op_eqG (hu2_of hr)) (pv 6) pe_str (nomark _)) (pss_one (ps_ret (pe_tupN (pa_cons pe_str (pa_cons (pv 8) (pa_cons (pv 9) pa_nil)))))) pss_nil)
  (pss_cons (ps_if (pt_cmpR (op_eqG (hu2_of hr)) (pv 6) pe_str (nomark _)) (pss_one (ps_ret (pe_tupN (pa_cons pe_str (pa_cons (pv 8) (pa_cons (pv 9) (pa_cons (pe_cal c_law_part hr rfl (pa_cons (pv 0) (pa_cons (pv 1) (pa_cons (pv 2) (pa_cons (pv 7) (pa_cons (pv 4) pa_nil)))))) pa_nil))))))) pss_nil)
  (pss_one (ps_ret (pe_tupN (pa_cons (pe_ixG (hu_of hr) (pe_lstN (pa_cons pe_str (pa_cons pe_str (pa_cons pe_str (pa_cons pe_str pa_nil))))) (pe_cal c_law_draw hr rfl (pa_cons (pv 0) (pa_cons pe_int pa_nil))) (fun _ _ => rfl)) (pa_cons (pv 8) (pa_cons (pv 9) pa_nil))))))))))))))))))))
abbrev st_law_loop : Stmt := topS 44
theorem sc_law_loop : FnScope ["_law_pen_here", "_law_world", "_law_me", "_law_things_here", "_law_room", "_law_call_here", "_law_name", "_law_other", "_law_one", "_law_more"] ["_law_pen_here", "_law_world", "_law_me", "_law_things_here", "_law_room"] (defScope st_law_loop) := ⟨rfl, rfl, rfl, by decide +kernel, rfl, by decide +kernel, by decide +kernel⟩
theorem mk_law_loop {P : Program} {w : World} {K : PySem.W.Frag} {mg : Str → Option Value} {base : Heap} (T : TX w K mg) {j : Nat} {sp : Sp} {s_law_part s_law_draw : Sp} (c_law_part : Cal P w K mg base j "_law_part" s_law_part) (c_law_draw : Cal P w K mg base j "_law_draw" s_law_draw)
    (pure_ : PureOk 5 sp (t_law_loop K w s_law_part s_law_draw) 10) : Cal P w K mg base (j + 1) "_law_loop" sp := by
  obtain ⟨fd, F⟩ := T.d_law_loop
  refine cal_mk F T.f_law_loop sc_law_loop (F.bindsN fun _ _ _ _ _ _ us hl => match us, hl with | [_, _, _, _, _], _ => rfl) pure_.len fun cdv A outer s H vs Q E hr h => ?_
  refine ⟨t_law_loop K w s_law_part s_law_draw, PSs.nox ?_, pure_.run vs H Q E h⟩
  exact (pss_cons (ps_set (i := 5) sc_law_loop.nd rfl (Or.inl rfl) (pe_tupN (pa_cons pe_str (pa_cons (pe_tupN (pa_cons pe_str (pa_cons (pv 2) pa_nil))) (pa_cons (pe_tupN (pa_cons pe_str (pa_cons (pe_tupN (pa_cons pe_str (pa_cons (pe_ixG (hu_of hr) (pv 3) pe_int (fun _ _ => rfl)) pa_nil))) (pa_cons (pe_tupN (pa_cons pe_str (pa_cons pe_int pa_nil))) pa_nil)))) pa_nil)))))
  (pss_cons (ps_for PassesOwn.never rfl (pi_seq (pe_slice sl_any (pv 3) (po_some pe_int) po_none)) (pg_name (i := 6) sc_law_loop.nd rfl (by first | exact Or.inl rfl | exact Or.inr rfl)) (pss_cons (ps_set (i := 7) sc_law_loop.nd rfl (Or.inl rfl) (pe_cal c_law_part hr rfl (pa_cons (pv 0) (pa_cons (pv 1) (pa_cons (pv 3) (pa_cons (pe_lstN (pa_cons pe_int (pa_cons (pe_ixG (hu_of hr) (pv 4) pe_int (fun _ _ => rfl)) (pa_cons (pe_ixG (hu_of hr) (pv 4) pe_int (fun _ _ => rfl)) pa_nil)))) (pa_cons pe_str pa_nil)))))))
  (pss_one (ps_set (i := 5) sc_law_loop.nd rfl (Or.inl rfl) (pe_tupN (pa_cons pe_str (pa_cons (pv 5) (pa_cons (pe_ixG (hu_of hr) (pe_lstN (pa_cons (pe_tupN (pa_cons pe_str (pa_cons (pv 6) pa_nil))) (pa_cons (pv 7) pa_nil))) (pe_cal c_law_draw hr rfl (pa_cons (pv 0) (pa_cons pe_int pa_nil))) (fun _ _ => rfl)) pa_nil))))))))
  (pss_cons (ps_set (i := 8) sc_law_loop.nd rfl (Or.inl rfl) (pe_cal c_law_part hr rfl (pa_cons (pv 0) (pa_cons (pv 1) (pa_cons (pv 3) (pa_cons (pe_lstN (pa_cons pe_int (pa_cons (pe_ixG (hu_of hr) (pv 4) pe_int (fun _ _ => rfl)) (pa_cons (pe_ixG (hu_of hr) (pv 4) pe_int (fun _ _ => rfl)) pa_nil)))) (pa_cons pe_str pa_nil)))))))
  (pss_cons (ps_set (i := 9) sc_law_loop.nd rfl (Or.inl rfl) (pe_ixG (hu_of hr) (pe_lstN (pa_cons (pv 5) (pa_cons (pe_tupN (pa_cons pe_str (pa_cons (pv 8) (pa_cons (pv 5) pa_nil)))) (pa_cons (pe_tupN (pa_cons pe_str (pa_cons (pv 8) (pa_cons (pv 5) pa_nil)))) (pa_cons (pe_tupN (pa_cons pe_str (pa_cons (pv 5) (pa_cons (pv 8) pa_nil)))) pa_nil))))) (pe_cal c_law_draw hr rfl (pa_cons (pv 0) (pa_cons pe_int pa_nil))) (fun _ _ => rfl)))
  (pss_one (ps_ret (pe_tupN (pa_cons pe_str (pa_cons (pe_tupN (pa_cons pe_str (pa_cons (pe_ixG (hu_of hr) (pv 3) pe_int (fun _ _ => rfl)) pa_nil))) (pa_cons (pv 9) (pa_cons (pe_cal c_law_part hr rfl (pa_cons (pv 0) (pa_cons (pv 1) (pa_cons (pv 3) (pa_cons (pe_lstN (pa_cons pe_int (pa_cons (pe_ixG (hu_of hr) (pv 4) pe_int (fun _ _ => rfl)) (pa_cons (pe_ixG (hu_of hr) (pv 4) pe_int (fun _ _ => rfl)) pa_nil)))) (pa_cons pe_str pa_nil)))))) pa_nil)))))))))))
abbrev st_law_body : Stmt := topS 45
theorem sc_law_body : FnScope ["_law_pen_here", "_law_world", "_law_me", "_law_things_here", "_law_stock", "_law_deep", "_law_left", "_law_part_here", "_law_k"] ["_law_pen_here", "_law_world", "_law_me", "_law_things_here", "_law_stock"] (defScope st_law_body) := ⟨rfl, rfl, rfl, by decide +kernel, rfl, by decide +kernel, by decide +kernel⟩
theorem mk_law_body {P : Program} {w : World} {K : PySem.W.Frag} {mg : Str → Option Value} {base : Heap} (T : TX w K mg) {j : Nat} {sp : Sp} {s_law_draw s_law_loop s_law_part : Sp} (c_law_draw : Cal P w K mg base j "_law_draw" s_law_draw) (c_law_loop : Cal P w K mg base j "_law_loop" s_law_loop) (c_law_part : Cal P w K mg base j "_law_part" s_law_part)
    (pure_ : PureOk 5 sp (t_law_body K w s_law_draw s_law_loop s_law_part) 9) : Cal P w K mg base (j + 1) "_law_body" sp := by
  obtain ⟨fd, F⟩ := T.d_law_body
  refine cal_mk F T.f_law_body sc_law_body (F.bindsN fun _ _ _ _ _ _ us hl => match us, hl with | [_, _, _, _, _], _ => rfl) pure_.len fun cdv A outer s H vs Q E hr h => ?_
  refine ⟨t_law_body K w s_law_draw s_law_loop s_law_part, PSs.nox ?_, pure_.run vs H Q E h⟩
  exact (pss_cons (ps_set (i := 5) sc_law_body.nd rfl (Or.inl rfl) (pe_ixG (hu_of hr) (pe_lstN (pa_cons pe_int (pa_cons pe_int (pa_cons pe_int (pa_cons pe_int pa_nil))))) (pe_cal c_law_draw hr rfl (pa_cons (pv 0) (pa_cons pe_int pa_nil))) (fun _ _ => rfl)))
  (pss_cons (ps_set (i := 6) sc_law_body.nd rfl (Or.inl rfl) (pe_ixG (hu_of hr) (pe_lstN (pa_cons pe_int (pa_cons pe_int (pa_cons pe_int (pa_cons pe_int (pa_cons pe_int (pa_cons pe_int pa_nil))))))) (pe_cal c_law_draw hr rfl (pa_cons (pv 0) (pa_cons pe_int pa_nil))) (fun _ _ => rfl)))
  (pss_cons (ps_if (PW.pt (pw_and (pt_cmpR (op_neG (hu2_of hr)) (pv 2) pe_str (nomark _)) (pw_and (pt_cmpR (op_neG (hu2_of hr)) (pv 3) (pe_lstN pa_nil) (nomark _)) (pw_and1 (pt_cmpR (op_eqG (hu2_of hr)) (pe_cal c_law_draw hr rfl (pa_cons (pv 0) (pa_cons pe_int pa_nil))) pe_int (nomark _)))))) (pss_one (ps_ret (pe_cal c_law_loop hr rfl (pa_cons (pv 0) (pa_cons (pv 1) (pa_cons (pv 2) (pa_cons (pv 3) (pa_cons (pe_lstN (pa_cons (pv 5) (pa_cons (pe_lstN (pa_cons (pe_callB (call_min2 rfl) (by rfl) T.n_min (by decide +kernel) (pa_cons (pv 6) (pa_cons pe_int pa_nil))) pa_nil)) (pa_cons (pv 4) pa_nil)))) pa_nil)))))))) pss_nil)
  (pss_cons (ps_if (PW.pt (pw_and (pt_cmpR (op_eqG (hu2_of hr)) (pv 2) pe_str (nomark _)) (pw_and (pt_cmpR (op_neG (hu2_of hr)) (pv 1) (pe_lstN pa_nil) (nomark _)) (pw_and1 (pt_cmpR (op_eqG (hu2_of hr)) (pe_cal c_law_draw hr rfl (pa_cons (pv 0) (pa_cons pe_int pa_nil))) pe_int (nomark _)))))) (pss_cons (ps_set (i := 7) sc_law_body.nd rfl (Or.inl rfl) (pe_tupN (pa_cons pe_str (pa_cons (pe_ixG (hu_of hr) (pe_ixG (hu_of hr) (pv 1) pe_int (fun _ _ => rfl)) pe_int (fun _ _ => rfl)) pa_nil))))
  (pss_cons (ps_for PassesOwn.never rfl (pi_range1 (by rfl) T.n_range (pa_cons (pe_ixG (hu_of hr) (pe_ixG (hu_of hr) (pv 1) pe_int (fun _ _ => rfl)) pe_int (fun _ _ => rfl)) pa_nil)) (pg_name (i := 8) sc_law_body.nd rfl (by first | exact Or.inl rfl | exact Or.inr rfl)) (pss_one (ps_set (i := 7) sc_law_body.nd rfl (Or.inl rfl) (pe_tupN (pa_cons pe_str (pa_cons (pv 7) (pa_cons (pe_tupN (pa_cons pe_str (pa_cons (pe_cal c_law_draw hr rfl (pa_cons (pv 0) (pa_cons pe_int pa_nil))) pa_nil))) pa_nil)))))))
  (pss_one (ps_ret (pv 7))))) pss_nil)
  (pss_one (ps_ret (pe_cal c_law_part hr rfl (pa_cons (pv 0) (pa_cons (pv 1) (pa_cons (pv 3) (pa_cons (pe_lstN (pa_cons (pv 5) (pa_cons (pe_lstN (pa_cons (pv 6) pa_nil)) (pa_cons (pv 4) pa_nil)))) (pa_cons pe_str pa_nil))))))))))))
abbrev st_law_program : Stmt := topS 46
theorem sc_law_program : FnScope ["_law_pen_here", "_law_names_here", "_law_world", "_law_name", "_law_functions", "_law_wanted", "_law_stock", "_law_things_here"] ["_law_pen_here"] (defScope st_law_program) := ⟨rfl, rfl, rfl, by decide +kernel, rfl, by decide +kernel, by decide +kernel⟩
theorem mk_law_program {P : Program} {w : World} {K : PySem.W.Frag} {mg : Str → Option Value} {base : Heap} (T : TX w K mg) {j : Nat} {sp : Sp} {s_law_names s_law_draw s_law_body : Sp} (c_law_names : Cal P w K mg base j "_law_names" s_law_names) (c_law_draw : Cal P w K mg base j "_law_draw" s_law_draw) (c_law_body : Cal P w K mg base j "_law_body" s_law_body)
    (pure_ : PureOk 1 sp (t_law_program K w s_law_names s_law_draw s_law_body) 8) : Cal P w K mg base (j + 1) "_law_program" sp := by
  obtain ⟨fd, F⟩ := T.d_law_program
  refine cal_mk F T.f_law_program sc_law_program (F.bindsN fun _ _ _ _ _ _ us hl => match us, hl with | [_], _ => rfl) pure_.len fun cdv A outer s H vs Q E hr h => ?_
  refine ⟨t_law_program K w s_law_names s_law_draw s_law_body, PSs.nox ?_, pure_.run vs H Q E h⟩
  exact (pss_cons (ps_set (i := 1) sc_law_program.nd rfl (Or.inl rfl) (pe_cal c_law_names hr rfl (pa_cons (pv 0) (pa_cons (pe_ixG (hu_of hr) (pe_lstN (pa_cons pe_int (pa_cons pe_int (pa_cons pe_int (pa_cons pe_int (pa_cons pe_int (pa_cons pe_int (pa_cons pe_int (pa_cons pe_int pa_nil))))))))) (pe_cal c_law_draw hr rfl (pa_cons (pv 0) (pa_cons pe_int pa_nil))) (fun _ _ => rfl)) pa_nil))))
  (pss_cons (ps_setLc (i := 2) (own := [("_law_name", 3)]) (g := (gName 3)) (tt := tYes) rfl sc_law_program.nd rfl rfl (sw_true rfl rfl rfl (by decide +kernel)) (pi_seq (pv 1)) (blkOk_by (by kernel_rfl)) (fun _ _ _ _ _ => (pg_name (i := 3) sc_law_program.nd rfl (by first | exact Or.inl rfl | exact Or.inr rfl))) (fun _ _ _ _ _ => pts_nil) (fun _ _ _ _ _ => (pe_tupN (pa_cons (pv 3) (pa_cons (pe_ixG (hu_of hr) (pe_lstN (pa_cons pe_int (pa_cons pe_int (pa_cons pe_int (pa_cons pe_int (pa_cons pe_int (pa_cons pe_int (pa_cons pe_int pa_nil)))))))) (pe_cal c_law_draw hr rfl (pa_cons (pv 0) (pa_cons pe_int pa_nil))) (fun _ _ => rfl)) pa_nil)))))
  (pss_cons (ps_set (i := 4) sc_law_program.nd rfl (Or.inl rfl) (pe_lstN pa_nil))
  (pss_cons (ps_for PassesOwn.never rfl (pi_seq (pv 2)) (pg_tup rfl (pgs_cons (pg_name (i := 3) sc_law_program.nd rfl (by first | exact Or.inl rfl | exact Or.inr rfl)) (pgs_cons (pg_name (i := 5) sc_law_program.nd rfl (by first | exact Or.inl rfl | exact Or.inr rfl)) pgs_nil))) (pss_cons (ps_set (i := 6) sc_law_program.nd rfl (Or.inl rfl) (pe_cal c_law_names hr rfl (pa_cons (pv 0) (pa_cons pe_int pa_nil))))
  (pss_cons (ps_set (i := 7) sc_law_program.nd rfl (Or.inl rfl) (pe_slice sl_any (pv 6) po_none (po_some (pv 5))))
  (pss_one (ps_expr (pe_bm PySem.F.plainAttrs_list PySem.F.slot_list_append PySem.F.type_list_append mt_appendG (pv 4) (pa_cons (pe_tupN (pa_cons (pv 3) (pa_cons (pe_callTy call_tupleG (by rfl) T.n_tuple (by decide +kernel) (pa_cons (pv 7) pa_nil)) (pa_cons (pe_cal c_law_body hr rfl (pa_cons (pv 0) (pa_cons (pv 2) (pa_cons (pv 3) (pa_cons (pv 7) (pa_cons (pe_slice sl_any (pv 6) (po_some (pv 5)) po_none) pa_nil)))))) pa_nil)))) pa_nil)))))))
  (pss_one (ps_ret (pe_tupN (pa_cons (pe_callTy call_tupleG (by rfl) T.n_tuple (by decide +kernel) (pa_cons (pv 4) pa_nil)) (pa_cons (pe_cal c_law_body hr rfl (pa_cons (pv 0) (pa_cons (pv 2) (pa_cons pe_str (pa_cons (pe_lstN pa_nil) (pa_cons (pe_cal c_law_names hr rfl (pa_cons (pv 0) (pa_cons pe_int pa_nil))) pa_nil)))))) pa_nil)))))))))
abbrev st_law_told : Stmt := topS 47
theorem sc_law_told : FnScope ["_law_thing", "_law_found", "_law_caught", "e", "_law_some"] ["_law_thing"] (defScope st_law_told) := ⟨rfl, rfl, rfl, by decide +kernel, rfl, by decide +kernel, by decide +kernel⟩
theorem mk_law_told {P : Program} {w : World} {K : PySem.W.Frag} {mg : Str → Option Value} {base : Heap} (T : TX w K mg) {j : Nat} {sp : Sp} {s_looked : Sp} (c_looked : CalX P w K mg base j "looked" s_looked)
    (pure_ : PureOk 1 sp (t_law_told K w s_looked) 5) : Cal P w K mg base (j + 1) "_law_told" sp := by
  obtain ⟨fd, F⟩ := T.d_law_told
  refine cal_mk F T.f_law_told sc_law_told (F.bindsN fun _ _ _ _ _ _ us hl => match us, hl with | [_], _ => rfl) pure_.len fun cdv A outer s H vs Q E hr h => ?_
  refine ⟨t_law_told K w s_looked, PSs.nox ?_, pure_.run vs H Q E h⟩
  exact (pss_cons (ps_set (i := 1) sc_law_told.nd rfl (Or.inl rfl) pe_non)
  (pss_cons (ps_set (i := 2) sc_law_told.nd rfl (Or.inl rfl) pe_non)
  (pss_cons (ps_try_keep rfl rfl rfl sc_law_told.nd rfl rfl ⟨by rfl, by decide, Or.inl T.g_LazyError⟩ (fun W pn xe tk po => (pss_one (ps_set (i := 1) sc_law_told.nd rfl (Or.inl rfl) (pe_calx c_looked hr (by rfl) tk (pa_cons (pv 0) pa_nil))))) (fun a oe cls d pn _ _ => (pss_one (ps_set (i := 2) sc_law_told.nd rfl (Or.inl rfl) (pv 3)))))
  (pss_cons (ps_if (pt_cmpR op_isG (pv 2) pe_non (nomark _)) (pss_one (ps_ret (pe_ifExp (pt_cmpR (op_eqG (hu2_of hr)) (pv 1) (pv 0) (nomark _)) (pe_tupN (pa_cons pe_str (pa_cons pe_str pa_nil))) (pe_tupN (pa_cons pe_str (pa_cons pe_str pa_nil)))))) pss_nil)
  (pss_cons (ps_set (i := 4) sc_law_told.nd rfl (Or.inl rfl) (pe_lstN (pa_cons (pe_callB call_isiX (by rfl) T.n_isinstance (by decide +kernel) (pa_cons (pv 2) (pa_cons (pe_glob (v := .ref (He.ga K "NoProgram")) rfl T.g_NoProgram rfl) pa_nil))) (pa_cons (pe_callB call_isiX (by rfl) T.n_isinstance (by decide +kernel) (pa_cons (pv 2) (pa_cons (pe_glob (v := .ref (He.ga K "Twice")) rfl T.g_Twice rfl) pa_nil))) (pa_cons (pe_callB call_isiX (by rfl) T.n_isinstance (by decide +kernel) (pa_cons (pv 2) (pa_cons (pe_glob (v := .ref (He.ga K "Hidden")) rfl T.g_Hidden rfl) pa_nil))) pa_nil)))))
  (pss_cons (ps_set (i := 4) sc_law_told.nd rfl (Or.inl rfl) (pe_op op_addG (pv 4) (pe_lstN (pa_cons (pe_callB call_isiX (by rfl) T.n_isinstance (by decide +kernel) (pa_cons (pv 2) (pa_cons (pe_glob (v := .ref (He.ga K "Stranger")) rfl T.g_Stranger rfl) pa_nil))) (pa_cons (pe_callB call_isiX (by rfl) T.n_isinstance (by decide +kernel) (pa_cons (pv 2) (pa_cons (pe_glob (v := .ref (He.ga K "More")) rfl T.g_More rfl) pa_nil))) (pa_cons (pe_callB call_isiX (by rfl) T.n_isinstance (by decide +kernel) (pa_cons (pv 2) (pa_cons (pe_glob (v := .ref (He.ga K "NoRows")) rfl T.g_NoRows rfl) pa_nil))) pa_nil))))))
  (pss_cons (ps_set (i := 4) sc_law_told.nd rfl (Or.inl rfl) (pe_op op_addG (pv 4) (pe_lstN (pa_cons (pe_callB call_isiX (by rfl) T.n_isinstance (by decide +kernel) (pa_cons (pv 2) (pa_cons (pe_glob (v := .ref (He.ga K "NoText")) rfl T.g_NoText rfl) pa_nil))) (pa_cons (pe_callB call_isiX (by rfl) T.n_isinstance (by decide +kernel) (pa_cons (pv 2) (pa_cons (pe_glob (v := .ref (He.ga K "NoRow")) rfl T.g_NoRow rfl) pa_nil))) pa_nil)))))
  (pss_cons (ps_if (PW.pt (pw_or (pt_cmpR (op_neG (hu2_of hr)) (pe_bm PySem.F.plainAttrs_list PySem.F.slot_list_count PySem.F.type_list_count mt_count (pv 4) (pa_cons pe_bl pa_nil)) pe_int (nomark _)) (pw_or (pt_not (pt_tru (pe_callB call_isiX (by rfl) T.n_isinstance (by decide +kernel) (pa_cons (pv 2) (pa_cons (pe_bltn (v := .ty "ValueError") rfl T.n_ValueError (by decide +kernel) rfl) pa_nil))) (by intro _; rfl))) (pw_or1 (pt_cmpR op_gt (pe_bm PySem.F.plainAttrs_list PySem.F.slot_list_index PySem.F.type_list_index mt_index (pv 4) (pa_cons pe_bl pa_nil)) pe_int (nomark _)))))) (pss_one (ps_ret (pe_tupN (pa_cons pe_str (pa_cons pe_str pa_nil))))) pss_nil)
  (pss_cons (ps_if (pt_tru (pe_ixG (hu_of hr) (pv 4) pe_int (fun _ _ => rfl)) (by intro _; rfl)) (pss_one (ps_ret (pe_tupN (pa_cons pe_str (pa_cons pe_str pa_nil))))) pss_nil)
  (pss_one (ps_ret (pe_tupN (pa_cons (pe_ixG (hu_of hr) (pe_lstN (pa_cons pe_str (pa_cons pe_str (pa_cons pe_str (pa_cons pe_str pa_nil))))) (pe_bm PySem.F.plainAttrs_list PySem.F.slot_list_index PySem.F.type_list_index mt_index (pv 4) (pa_cons pe_bl pa_nil)) (fun _ _ => rfl)) (pa_cons (pe_fldX (pv 2)) pa_nil))))))))))))))
abbrev st_law_nested : Stmt := topS 48
theorem sc_law_nested : FnScope ["_law_pen_here", "_law_found", "_law_k"] ["_law_pen_here"] (defScope st_law_nested) := ⟨rfl, rfl, rfl, by decide +kernel, rfl, by decide +kernel, by decide +kernel⟩
theorem mk_law_nested {P : Program} {w : World} {K : PySem.W.Frag} {mg : Str → Option Value} {base : Heap} (T : TX w K mg) {j : Nat} {sp : Sp} {s_law_draw : Sp} (c_law_draw : Cal P w K mg base j "_law_draw" s_law_draw)
    (pure_ : PureOk 1 sp (t_law_nested K w s_law_draw) 3) : Cal P w K mg base (j + 1) "_law_nested" sp := by
  obtain ⟨fd, F⟩ := T.d_law_nested
  refine cal_mk F T.f_law_nested sc_law_nested (F.bindsN fun _ _ _ _ _ _ us hl => match us, hl with | [_], _ => rfl) pure_.len fun cdv A outer s H vs Q E hr h => ?_
  refine ⟨t_law_nested K w s_law_draw, PSs.nox ?_, pure_.run vs H Q E h⟩
  exact (pss_cons (ps_set (i := 1) sc_law_nested.nd rfl (Or.inl rfl) (pe_ixG (hu_of hr) (pe_lstN (pa_cons pe_non (pa_cons pe_bl (pa_cons pe_int (pa_cons pe_str (pa_cons (pe_tupN pa_nil) (pa_cons (pe_lstN pa_nil) (pa_cons (pe_tupN (pa_cons pe_str pa_nil)) (pa_cons pe_str pa_nil))))))))) (pe_cal c_law_draw hr rfl (pa_cons (pv 0) (pa_cons pe_int pa_nil))) (fun _ _ => rfl)))
  (pss_cons (ps_for PassesOwn.never rfl (pi_range1 (by rfl) T.n_range (pa_cons (pe_cal c_law_draw hr rfl (pa_cons (pv 0) (pa_cons pe_int pa_nil))) pa_nil)) (pg_name (i := 2) sc_law_nested.nd rfl (by first | exact Or.inl rfl | exact Or.inr rfl)) (pss_one (ps_set (i := 1) sc_law_nested.nd rfl (Or.inl rfl) (pe_ixG (hu_of hr) (pe_lstN (pa_cons (pe_tupN (pa_cons (pv 1) pa_nil)) (pa_cons (pe_lstN (pa_cons (pv 1) pa_nil)) (pa_cons (pe_ifExp (pt_cmpR op_lt (pv 2) pe_int (nomark _)) (pe_tupN (pa_cons (pv 1) (pa_cons (pv 1) pa_nil))) (pe_tupN (pa_cons (pv 1) pa_nil))) (pa_cons (pe_tupN (pa_cons pe_str (pa_cons (pv 1) pa_nil))) pa_nil))))) (pe_cal c_law_draw hr rfl (pa_cons (pv 0) (pa_cons pe_int pa_nil))) (fun _ _ => rfl)))))
  (pss_one (ps_ret (pv 1)))))
abbrev st_law_things : Stmt := topS 49
theorem sc_law_things : FnScope ["_law_pen_here", "_law_program_here", "_law_functions", "_law_asked", "_law_found", "_law_at", "_law_name", "_law_things_here", "_law_body_here", "_law_some", "_law_one"] ["_law_pen_here", "_law_program_here"] (defScope st_law_things) := ⟨rfl, rfl, rfl, by decide +kernel, rfl, by decide +kernel, by decide +kernel⟩
theorem mk_law_things {P : Program} {w : World} {K : PySem.W.Frag} {mg : Str → Option Value} {base : Heap} (T : TX w K mg) {j : Nat} {sp : Sp} {s_law_nested s_law_draw : Sp} (c_law_nested : Cal P w K mg base j "_law_nested" s_law_nested) (c_law_draw : Cal P w K mg base j "_law_draw" s_law_draw)
    (pure_ : PureOk 2 sp (t_law_things K w s_law_nested s_law_draw) 11) : Cal P w K mg base (j + 1) "_law_things" sp := by
  obtain ⟨fd, F⟩ := T.d_law_things
  refine cal_mk F T.f_law_things sc_law_things (F.bindsN fun _ _ _ _ _ _ us hl => match us, hl with | [_, _], _ => rfl) pure_.len fun cdv A outer s H vs Q E hr h => ?_
  refine ⟨t_law_things K w s_law_nested s_law_draw, PSs.nox ?_, pure_.run vs H Q E h⟩
  exact (pss_cons (ps_asg (pv 1) (pg_tup rfl (pgs_cons (pg_name (i := 2) sc_law_things.nd rfl (by first | exact Or.inl rfl | exact Or.inr rfl)) (pgs_cons (pg_name (i := 3) sc_law_things.nd rfl (by first | exact Or.inl rfl | exact Or.inr rfl)) pgs_nil))))
  (pss_cons (ps_set (i := 4) sc_law_things.nd rfl (Or.inl rfl) (pe_lstN (pa_cons pe_non (pa_cons pe_bl (pa_cons pe_bl (pa_cons pe_int (pa_cons pe_int (pa_cons pe_str (pa_cons pe_str (pa_cons (pe_tupN pa_nil) (pa_cons (pe_lstN pa_nil) (pa_cons (pe_tupN (pa_cons (pe_tupN pa_nil) pa_nil)) (pa_cons (pe_tupN (pa_cons (pv 2) pa_nil)) (pa_cons (pe_tupN (pa_cons (pv 2) (pa_cons (pv 3) (pa_cons (pv 3) pa_nil)))) pa_nil))))))))))))))
  (pss_cons (ps_set (i := 4) sc_law_things.nd rfl (Or.inl rfl) (pe_op op_addG (pv 4) (pe_lstN (pa_cons (pe_callTy (call_listG rfl) (by rfl) T.n_list (by decide +kernel) (pa_cons (pv 1) pa_nil)) (pa_cons (pe_tupN (pa_cons (pe_callTy (call_listG rfl) (by rfl) T.n_list (by decide +kernel) (pa_cons (pv 2) pa_nil)) (pa_cons (pv 3) pa_nil))) (pa_cons (pe_tupN (pa_cons pe_non (pa_cons (pv 3) pa_nil))) (pa_cons (pe_tupN (pa_cons (pv 2) (pa_cons pe_non pa_nil))) (pa_cons (pe_tupN (pa_cons (pv 3) (pa_cons (pv 2) pa_nil))) pa_nil))))))))
  (pss_cons (ps_set (i := 4) sc_law_things.nd rfl (Or.inl rfl) (pe_op op_addG (pv 4) (pe_lstN (pa_cons (pe_tupN (pa_cons (pv 2) (pa_cons (pv 1) pa_nil))) (pa_cons (pe_tupN (pa_cons (pe_tupN (pa_cons (pv 1) pa_nil)) (pa_cons (pv 3) pa_nil))) (pa_cons (pe_tupN (pa_cons pe_str (pa_cons (pv 3) pa_nil))) (pa_cons (pe_tupN (pa_cons (pv 2) (pa_cons (pe_callTy (call_listG rfl) (by rfl) T.n_list (by decide +kernel) (pa_cons (pv 3) pa_nil)) pa_nil))) pa_nil)))))))
  (pss_cons (ps_set (i := 4) sc_law_things.nd rfl (Or.inl rfl) (pe_op op_addG (pv 4) (pe_lstN (pa_cons (pe_cal c_law_nested hr rfl (pa_cons (pv 0) pa_nil)) (pa_cons (pe_tupN (pa_cons (pv 2) (pa_cons (pe_cal c_law_nested hr rfl (pa_cons (pv 0) pa_nil)) pa_nil))) (pa_cons (pe_tupN (pa_cons (pe_tupN (pa_cons (pe_cal c_law_nested hr rfl (pa_cons (pv 0) pa_nil)) pa_nil)) (pa_cons (pv 3) pa_nil))) pa_nil))))))
  (pss_cons (ps_if (pt_cmpR (op_neG (hu2_of hr)) (pv 2) (pe_tupN pa_nil) (nomark _)) (pss_cons (ps_set (i := 5) sc_law_things.nd rfl (Or.inl rfl) (pe_cal c_law_draw hr rfl (pa_cons (pv 0) (pa_cons (pe_callB call_lenG (by rfl) T.n_len (by decide +kernel) (pa_cons (pv 2) pa_nil)) pa_nil))))
  (pss_cons (ps_asg (pe_ixG (hu_of hr) (pv 2) (pv 5) (fun _ _ => rfl)) (pg_tup rfl (pgs_cons (pg_name (i := 6) sc_law_things.nd rfl (by first | exact Or.inl rfl | exact Or.inr rfl)) (pgs_cons (pg_name (i := 7) sc_law_things.nd rfl (by first | exact Or.inl rfl | exact Or.inr rfl)) (pgs_cons (pg_name (i := 8) sc_law_things.nd rfl (by first | exact Or.inl rfl | exact Or.inr rfl)) pgs_nil)))))
  (pss_cons (ps_set (i := 9) sc_law_things.nd rfl (Or.inl rfl) (pe_lstN (pa_cons (pe_callTy (call_listG rfl) (by rfl) T.n_list (by decide +kernel) (pa_cons (pe_ixG (hu_of hr) (pv 2) (pv 5) (fun _ _ => rfl)) pa_nil)) (pa_cons (pe_tupN (pa_cons (pv 6) (pa_cons (pe_callTy (call_listG rfl) (by rfl) T.n_list (by decide +kernel) (pa_cons (pv 7) pa_nil)) (pa_cons (pv 8) pa_nil)))) (pa_cons (pe_tupN (pa_cons (pv 6) (pa_cons pe_non (pa_cons (pv 8) pa_nil)))) (pa_cons (pe_tupN (pa_cons (pv 6) (pa_cons (pv 7) pa_nil))) pa_nil))))))
  (pss_cons (ps_set (i := 9) sc_law_things.nd rfl (Or.inl rfl) (pe_op op_addG (pv 9) (pe_lstN (pa_cons (pe_tupN (pa_cons (pv 7) (pa_cons (pv 6) (pa_cons (pv 8) pa_nil)))) (pa_cons (pe_tupN (pa_cons (pv 6) (pa_cons (pv 7) (pa_cons (pv 8) (pa_cons (pv 8) pa_nil))))) (pa_cons pe_non (pa_cons (pv 6) (pa_cons (pe_tupN (pa_cons pe_non (pa_cons (pv 7) (pa_cons (pv 8) pa_nil)))) pa_nil))))))))
  (pss_cons (ps_set (i := 9) sc_law_things.nd rfl (Or.inl rfl) (pe_op op_addG (pv 9) (pe_lstN (pa_cons (pe_tupN (pa_cons (pv 6) (pa_cons pe_str (pa_cons (pv 8) pa_nil)))) (pa_cons (pe_tupN (pa_cons (pv 6) (pa_cons (pv 7) (pa_cons pe_non pa_nil)))) pa_nil)))))
  (pss_one (ps_for PassesOwn.never rfl (pi_seq (pv 9)) (pg_name (i := 10) sc_law_things.nd rfl (by first | exact Or.inl rfl | exact Or.inr rfl)) (pss_one (ps_expr (pe_bm PySem.F.plainAttrs_list PySem.F.slot_list_append PySem.F.type_list_append mt_appendG (pv 4) (pa_cons (pe_tupN (pa_cons (pe_op op_addG (pe_op op_addG (pe_slice sl_any (pv 2) po_none (po_some (pv 5))) (pe_tupN (pa_cons (pv 10) pa_nil))) (pe_slice sl_any (pv 2) (po_some (pe_op op_addG (pv 5) pe_int)) po_none)) (pa_cons (pv 3) pa_nil))) pa_nil))))))))))) pss_nil)
  (pss_one (ps_ret (pv 4)))))))))
abbrev st_law : Stmt := topS 50
theorem sc_law : FnScope ["_law_script", "_law_pen_here", "_law_turn", "_law_program_here", "_law_thing"] ["_law_script"] (defScope st_law) := ⟨rfl, rfl, rfl, by decide +kernel, rfl, by decide +kernel, by decide +kernel⟩
theorem mkl_law {P : Program} {w : World} {K : PySem.W.Frag} {mg : Str → Option Value} {base : Heap} {fd : FuncData} (F : FunD K "law" "law" (defArgs (topS 50)) (defBody (topS 50)) (defScope (topS 50)) [] [] (He.ga K "law") fd) (T : TX w K mg) {j : Nat} {sp : Sp} {s_law_pen s_law_program s_law_things s_law_told s_looked : Sp} (c_law_pen : Cal P w K mg base j "_law_pen" s_law_pen) (c_law_program : Cal P w K mg base j "_law_program" s_law_program) (c_law_things : Cal P w K mg base j "_law_things" s_law_things) (c_law_told : Cal P w K mg base j "_law_told" s_law_told) (c_looked : CalX P w K mg base j "looked" s_looked)
    (pure_ : PureOk 1 sp (t_law K w s_law_pen s_law_program s_law_things s_law_told s_looked) 5) : FnOk P w K mg base CX0 (j + 1) (He.ga K "law") fd ["_law_script"] sp := by
  refine F.ok sc_law pure_.len fun cdv A outer s H vs Q E hr h => ?_
  refine ⟨t_law K w s_law_pen s_law_program s_law_things s_law_told s_looked, PSs.nox ?_, pure_.run vs H Q E h⟩
  exact (pss_cons (ps_set (i := 1) sc_law.nd rfl (Or.inl rfl) (pe_cal c_law_pen hr rfl (pa_cons (pv 0) pa_nil)))
  (pss_cons (ps_for PassesOwn.never rfl (pi_range1 (by rfl) T.n_range (pa_cons (pe_callB (call_max2 rfl) (by rfl) T.n_max (by decide +kernel) (pa_cons pe_int (pa_cons (pe_callB (call_min2 rfl) (by rfl) T.n_min (by decide +kernel) (pa_cons pe_int (pa_cons (pe_callB call_lenG (by rfl) T.n_len (by decide +kernel) (pa_cons (pv 0) pa_nil)) pa_nil))) pa_nil))) pa_nil)) (pg_name (i := 2) sc_law.nd rfl (by first | exact Or.inl rfl | exact Or.inr rfl)) (pss_cons (ps_set (i := 3) sc_law.nd rfl (Or.inl rfl) (pe_cal c_law_program hr rfl (pa_cons (pv 1) pa_nil)))
  (pss_cons (ps_for PassesOwn.never rfl (pi_seq (pe_cal c_law_things hr rfl (pa_cons (pv 1) (pa_cons (pv 3) pa_nil)))) (pg_name (i := 4) sc_law.nd rfl (by first | exact Or.inl rfl | exact Or.inr rfl)) (pss_one (ps_if (pt_cmpR (op_neG (hu2_of hr)) (pe_cal c_law_told hr rfl (pa_cons (pv 4) pa_nil)) (pe_tupN (pa_cons pe_str (pa_cons pe_str pa_nil))) (nomark _)) (pss_one (ps_ret pe_bl)) pss_nil)))
  (pss_one (ps_if (pt_cmpR (op_neG (hu2_of hr)) (pe_calN c_looked hr (by rfl) (pa_cons (pv 3) pa_nil)) (pv 3) (nomark _)) (pss_one (ps_ret pe_bl)) pss_nil)))))
  (pss_one (ps_ret pe_bl))))
theorem nv_law_part {P : Program} {w : World} {K : PySem.W.Frag} {mg : Str → Option Value} {base : Heap} (T : TX w K mg) {sp : Sp} (no : ∀ vs H Q E, ¬ sp vs H Q E) : Cal P w K mg base 1 "_law_part" sp := by
  obtain ⟨fd, F⟩ := T.d_law_part
  exact cal_mk F T.f_law_part sc_law_part (F.bindsN fun _ _ _ _ _ _ us hl => match us, hl with | [_, _, _, _, _], _ => rfl) (fun vs H Q E h => (no _ _ _ _ h).elim) fun cdv A outer s H vs Q E hr h => (no _ _ _ _ h).elim
theorem nv_look_named {P : Program} {w : World} {K : PySem.W.Frag} {mg : Str → Option Value} {base : Heap} (T : TX w K mg) {sp : Sp} (no : ∀ vs H Q E, ¬ sp vs H Q E) : CalX P w K mg base 1 "look_named" sp := by
  obtain ⟨fd, F⟩ := T.d_look_named
  exact calx_mk F T.f_look_named sc_look_named (F.bindsN fun _ _ _ _ _ _ us hl => match us, hl with | [_, _, _], _ => rfl) (fun vs H Q E h => (no _ _ _ _ h).elim) fun cdv A outer s H vs Q E hr h => (no _ _ _ _ h).elim
/-! ### the head -/
def dd (x : Str) (i : Nat) : He.DefD := ⟨(x, none), x, x, defArgs (topS i), defBody (topS i), defScope (topS i), [], []⟩
def dm (c m q : Str) (i j : Nat) : He.DefD := ⟨(c, some m), m, q, defArgs (inClass (topS i) j), defBody (inClass (topS i) j), defScope (inClass (topS i) j), [], []⟩
def hfn : List He.DefD := [dm "Twice" "__init__" "Twice.__init__" 3 0, dm "Hidden" "__init__" "Hidden.__init__" 4 0, dm "Stranger" "__init__" "Stranger.__init__" 5 0, dd "is_name" 13, dd "is_whole" 14, dd "is_small" 15, dd "within" 16, dd "in_order" 17, dd "is_row" 24, dd "are_rows" 25, dd "parts_of" 26, dd "is_body" 27, dd "is_function" 28, dd "is_built" 29, dd "row_names" 30, dd "look_unlike" 31, dd "look_named" 32, dd "looked" 33, dd "_law_pen" 35, dd "_law_draw" 36, dd "_law_names" 37, dd "_law_number" 38, dd "_law_leaf" 39, dd "_law_fits" 40, dd "_law_call" 41, dd "_law_let" 42, dd "_law_part" 43, dd "_law_loop" 44, dd "_law_body" 45, dd "_law_program" 46, dd "_law_told" 47, dd "_law_nested" 48, dd "_law_things" 49, dd "law" 50]
def hfa : List He.Fa := [.glo "is_name", .glo "is_whole", .glo "is_small", .glo "within", .glo "in_order", .glo "is_row", .glo "are_rows", .glo "parts_of", .glo "is_body", .glo "is_function", .glo "is_built", .glo "row_names", .glo "look_unlike", .glo "look_named", .glo "looked", .glo "_law_pen", .glo "_law_draw", .glo "_law_names", .glo "_law_number", .glo "_law_leaf", .glo "_law_fits", .glo "_law_call", .glo "_law_let", .glo "_law_part", .glo "_law_loop", .glo "_law_body", .glo "_law_program", .glo "_law_told", .glo "_law_nested", .glo "_law_things", .glo "law", .glo "Twice", .glo "Hidden", .glo "Stranger", .glo "NoProgram", .glo "LazyError", .glo "NoRows", .glo "More", .glo "NoRow", .glo "NoText", .free "str", .free "isinstance", .free "len", .free "all", .free "int", .free "bool", .free "abs", .free "list", .free "tuple", .free "range", .free "max", .free "min", .free "ValueError", .str "LETTERS" "abcdefghijklmnopqrstuvwxyz", .glo "PARTS", .int "MOST_ROWS" 4, .int "DEEPEST" 12, .int "MOST_PARTS" 60, .int "MOST_NAMES" 4, .int "MOST_FUNCTIONS" 8]
def hts : List He.Tab := [((fun K => He.ga K "PARTS"), ["give", "plus", "less", "times", "below", "when", "pair", "left", "right"])]
def hex (K : PySem.W.Frag) : Bool := He.valsB K (He.ga K "PARTS") [("give", .int 2), ("plus", .int 2), ("less", .int 2), ("times", .int 2), ("below", .int 2), ("when", .int 3), ("pair", .int 2), ("left", .int 1), ("right", .int 1)] && errB K
abbrev hR : PySem.W.OpenRow := PySem.W.OpenLaw.row PySem.Challenge.rw_lazywebs_k06_what_is_no_program
abbrev hk : PySem.W.Hook := He.hookX 5 hfa hfn hts [] hex
def ob (s : PySem.W.SharedT) : He.AlX := He.obsX 5 hfa hfn hts [] hex (HandSHeadRun.getT s)
theorem ob_eq (s : PySem.W.SharedT) : ob s = hk.obs s.abs := He.obsX_eq (HandSHeadRun.getT_eq s)
def loose0 : List Str := ["LazyError", "NoProgram", "Twice", "Hidden", "Stranger", "More", "NoRows", "NoText", "NoRow", "PARTS", "LETTERS", "is_name", "is_whole", "is_small", "within", "in_order", "MOST_FUNCTIONS", "MOST_NAMES", "MOST_ROWS", "MOST_PARTS", "DEEPEST", "is_row", "are_rows", "parts_of", "is_body", "is_function", "is_built", "row_names", "look_unlike", "look_named"]
def loose1 : List Str := ["looked", "_law_pen", "_law_draw", "_law_names", "_law_number", "_law_leaf", "_law_fits", "_law_call", "_law_let", "_law_part", "_law_loop", "_law_body", "_law_program", "_law_told", "_law_nested", "_law_things"]
def hloose : List Str := loose0 ++ loose1
theorem hrunF (w : World) : HandSHeadRun.RunEq hR (PySem.W.view hR.prog [50]) hk ob 6000 hloose (w.withFollow "special-get-raises" false) := by
  intro os
  kernel_rfl
theorem hrunT (w : World) : HandSHeadRun.RunEq hR (PySem.W.view hR.prog [50]) hk ob 6000 hloose (w.withFollow "special-get-raises" true) := by
  intro os
  kernel_rfl
theorem hrun (w : World) : HandSHeadRun.RunEq hR (PySem.W.view hR.prog [50]) hk ob 6000 hloose w :=
  PySem.W.byRow2 "special-get-raises" (P := fun w => HandSHeadRun.RunEq hR (PySem.W.view hR.prog [50]) hk ob 6000 hloose w) hrunF hrunT w
theorem tx_mk {w : World} {K : PySem.W.Frag} {h h2 : Heap} {mg : Str → Option Value} (X : K.In h) (G : h.Ns mainGlobals mg) (c : He.SaysX hfa hfn hts [] hex w h2 K) : TX w K mg := by
  have hm := c.more
  unfold hex at hm
  simp only [Bool.and_eq_true] at hm
  exact {
    d_Twice___init__ := c.t.d.def_ 0 rfl
    d_Hidden___init__ := c.t.d.def_ 1 rfl
    d_Stranger___init__ := c.t.d.def_ 2 rfl
    d_is_name := c.t.d.def_ 3 rfl
    f_is_name := He.glo_ok X G (c.t.d.fact 0 (f := .glo "is_name") rfl)
    d_is_whole := c.t.d.def_ 4 rfl
    f_is_whole := He.glo_ok X G (c.t.d.fact 1 (f := .glo "is_whole") rfl)
    d_is_small := c.t.d.def_ 5 rfl
    f_is_small := He.glo_ok X G (c.t.d.fact 2 (f := .glo "is_small") rfl)
    d_within := c.t.d.def_ 6 rfl
    f_within := He.glo_ok X G (c.t.d.fact 3 (f := .glo "within") rfl)
    d_in_order := c.t.d.def_ 7 rfl
    f_in_order := He.glo_ok X G (c.t.d.fact 4 (f := .glo "in_order") rfl)
    d_is_row := c.t.d.def_ 8 rfl
    f_is_row := He.glo_ok X G (c.t.d.fact 5 (f := .glo "is_row") rfl)
    d_are_rows := c.t.d.def_ 9 rfl
    f_are_rows := He.glo_ok X G (c.t.d.fact 6 (f := .glo "are_rows") rfl)
    d_parts_of := c.t.d.def_ 10 rfl
    f_parts_of := He.glo_ok X G (c.t.d.fact 7 (f := .glo "parts_of") rfl)
    d_is_body := c.t.d.def_ 11 rfl
    f_is_body := He.glo_ok X G (c.t.d.fact 8 (f := .glo "is_body") rfl)
    d_is_function := c.t.d.def_ 12 rfl
    f_is_function := He.glo_ok X G (c.t.d.fact 9 (f := .glo "is_function") rfl)
    d_is_built := c.t.d.def_ 13 rfl
    f_is_built := He.glo_ok X G (c.t.d.fact 10 (f := .glo "is_built") rfl)
    d_row_names := c.t.d.def_ 14 rfl
    f_row_names := He.glo_ok X G (c.t.d.fact 11 (f := .glo "row_names") rfl)
    d_look_unlike := c.t.d.def_ 15 rfl
    f_look_unlike := He.glo_ok X G (c.t.d.fact 12 (f := .glo "look_unlike") rfl)
    d_look_named := c.t.d.def_ 16 rfl
    f_look_named := He.glo_ok X G (c.t.d.fact 13 (f := .glo "look_named") rfl)
    d_looked := c.t.d.def_ 17 rfl
    f_looked := He.glo_ok X G (c.t.d.fact 14 (f := .glo "looked") rfl)
    d_law_pen := c.t.d.def_ 18 rfl
    f_law_pen := He.glo_ok X G (c.t.d.fact 15 (f := .glo "_law_pen") rfl)
    d_law_draw := c.t.d.def_ 19 rfl
    f_law_draw := He.glo_ok X G (c.t.d.fact 16 (f := .glo "_law_draw") rfl)
    d_law_names := c.t.d.def_ 20 rfl
    f_law_names := He.glo_ok X G (c.t.d.fact 17 (f := .glo "_law_names") rfl)
    d_law_number := c.t.d.def_ 21 rfl
    f_law_number := He.glo_ok X G (c.t.d.fact 18 (f := .glo "_law_number") rfl)
    d_law_leaf := c.t.d.def_ 22 rfl
    f_law_leaf := He.glo_ok X G (c.t.d.fact 19 (f := .glo "_law_leaf") rfl)
    d_law_fits := c.t.d.def_ 23 rfl
    f_law_fits := He.glo_ok X G (c.t.d.fact 20 (f := .glo "_law_fits") rfl)
    d_law_call := c.t.d.def_ 24 rfl
    f_law_call := He.glo_ok X G (c.t.d.fact 21 (f := .glo "_law_call") rfl)
    d_law_let := c.t.d.def_ 25 rfl
    f_law_let := He.glo_ok X G (c.t.d.fact 22 (f := .glo "_law_let") rfl)
    d_law_part := c.t.d.def_ 26 rfl
    f_law_part := He.glo_ok X G (c.t.d.fact 23 (f := .glo "_law_part") rfl)
    d_law_loop := c.t.d.def_ 27 rfl
    f_law_loop := He.glo_ok X G (c.t.d.fact 24 (f := .glo "_law_loop") rfl)
    d_law_body := c.t.d.def_ 28 rfl
    f_law_body := He.glo_ok X G (c.t.d.fact 25 (f := .glo "_law_body") rfl)
    d_law_program := c.t.d.def_ 29 rfl
    f_law_program := He.glo_ok X G (c.t.d.fact 26 (f := .glo "_law_program") rfl)
    d_law_told := c.t.d.def_ 30 rfl
    f_law_told := He.glo_ok X G (c.t.d.fact 27 (f := .glo "_law_told") rfl)
    d_law_nested := c.t.d.def_ 31 rfl
    f_law_nested := He.glo_ok X G (c.t.d.fact 28 (f := .glo "_law_nested") rfl)
    d_law_things := c.t.d.def_ 32 rfl
    f_law_things := He.glo_ok X G (c.t.d.fact 29 (f := .glo "_law_things") rfl)
    d_law := c.t.d.def_ 33 rfl
    f_law := He.glo_ok X G (c.t.d.fact 30 (f := .glo "law") rfl)
    g_Twice := He.glo_ok X G (c.t.d.fact 31 (f := .glo "Twice") rfl)
    g_Hidden := He.glo_ok X G (c.t.d.fact 32 (f := .glo "Hidden") rfl)
    g_Stranger := He.glo_ok X G (c.t.d.fact 33 (f := .glo "Stranger") rfl)
    g_NoProgram := He.glo_ok X G (c.t.d.fact 34 (f := .glo "NoProgram") rfl)
    g_LazyError := He.glo_ok X G (c.t.d.fact 35 (f := .glo "LazyError") rfl)
    g_NoRows := He.glo_ok X G (c.t.d.fact 36 (f := .glo "NoRows") rfl)
    g_More := He.glo_ok X G (c.t.d.fact 37 (f := .glo "More") rfl)
    g_NoRow := He.glo_ok X G (c.t.d.fact 38 (f := .glo "NoRow") rfl)
    g_NoText := He.glo_ok X G (c.t.d.fact 39 (f := .glo "NoText") rfl)
    n_str := He.free_ok X G (c.t.d.fact 40 (f := .free "str") rfl)
    n_isinstance := He.free_ok X G (c.t.d.fact 41 (f := .free "isinstance") rfl)
    n_len := He.free_ok X G (c.t.d.fact 42 (f := .free "len") rfl)
    n_all := He.free_ok X G (c.t.d.fact 43 (f := .free "all") rfl)
    n_int := He.free_ok X G (c.t.d.fact 44 (f := .free "int") rfl)
    n_bool := He.free_ok X G (c.t.d.fact 45 (f := .free "bool") rfl)
    n_abs := He.free_ok X G (c.t.d.fact 46 (f := .free "abs") rfl)
    n_list := He.free_ok X G (c.t.d.fact 47 (f := .free "list") rfl)
    n_tuple := He.free_ok X G (c.t.d.fact 48 (f := .free "tuple") rfl)
    n_range := He.free_ok X G (c.t.d.fact 49 (f := .free "range") rfl)
    n_max := He.free_ok X G (c.t.d.fact 50 (f := .free "max") rfl)
    n_min := He.free_ok X G (c.t.d.fact 51 (f := .free "min") rfl)
    n_ValueError := He.free_ok X G (c.t.d.fact 52 (f := .free "ValueError") rfl)
    errs := hm.2
    v_LETTERS := (He.str_ok X G (c.t.d.fact 53 (f := .str "LETTERS" "abcdefghijklmnopqrstuvwxyz") rfl)).elim fun t e => ⟨_, e, t, rfl⟩
    g_PARTS := He.glo_ok X G (c.t.d.fact 54 (f := .glo "PARTS") rfl)
    k_PARTS := ktab_of (kvs := [("give", .int 2), ("plus", .int 2), ("less", .int 2), ("times", .int 2), ("below", .int 2), ("when", .int 3), ("pair", .int 2), ("left", .int 1), ("right", .int 1)]) (tab_at c.t 0 rfl) hm.1
    v_MOST_ROWS := (He.int_ok X G (c.t.d.fact 55 (f := .int "MOST_ROWS" 4) rfl)).elim fun t e => ⟨_, e, t, rfl⟩
    v_DEEPEST := (He.int_ok X G (c.t.d.fact 56 (f := .int "DEEPEST" 12) rfl)).elim fun t e => ⟨_, e, t, rfl⟩
    v_MOST_PARTS := (He.int_ok X G (c.t.d.fact 57 (f := .int "MOST_PARTS" 60) rfl)).elim fun t e => ⟨_, e, t, rfl⟩
    v_MOST_NAMES := (He.int_ok X G (c.t.d.fact 58 (f := .int "MOST_NAMES" 4) rfl)).elim fun t e => ⟨_, e, t, rfl⟩
    v_MOST_FUNCTIONS := (He.int_ok X G (c.t.d.fact 59 (f := .int "MOST_FUNCTIONS" 8) rfl)).elim fun t e => ⟨_, e, t, rfl⟩
  }
section
variable {P : Program} {w : World} {K : PySem.W.Frag} {mg : Str → Option Value} {base : Heap}
theorem law_ok (T : TX w K mg) {fd : FuncData} (F : FunD K "law" "law" (defArgs (topS 50)) (defBody (topS 50)) (defScope (topS 50)) [] [] (He.ga K "law") fd) : FnOk P w K mg base CX0 31 (He.ga K "law") fd ["_law_script"] (spLaw K) := by
  have c_law_pen : Cal P w K mg base 1 "_law_pen" (spPen K) := mk_law_pen (j := 0) T  (pure_pen)
  have c_law_draw : Cal P w K mg base 1 "_law_draw" (spDraw) := mk_law_draw (j := 0) T  (pure_draw)
  have c_law_names : Cal P w K mg base 2 "_law_names" (spNames) := mk_law_names (j := 1) T (c_law_draw.mono (by decide)) (pure_names)
  have c_law_fits : Cal P w K mg base 1 "_law_fits" (spFits) := mk_law_fits (j := 0) T  (pure_fits)
  have c_law_number : Cal P w K mg base 2 "_law_number" (spNumber) := mk_law_number (j := 1) T (c_law_draw.mono (by decide)) (pure_number)
  have c_law_leaf : Cal P w K mg base 3 "_law_leaf" (spLeaf) := mk_law_leaf (j := 2) T (c_law_draw.mono (by decide)) (c_law_number.mono (by decide)) (pure_leaf)
  have c_law_part_0 : Cal P w K mg base 1 "_law_part" (spPart 0) := nv_law_part T (fun vs H Q E ⟨_, _, _, _, _, _, _, _, _, _, _, _, _, _, _, h, _⟩ => Nat.not_lt_zero _ h)
  have c_law_call_1 : Cal P w K mg base 4 "_law_call" (spCallP 0) := mk_law_call (j := 3) T (c_law_draw.mono (by decide)) (c_law_fits.mono (by decide)) (c_law_leaf.mono (by decide)) (c_law_part_0.mono (by decide)) (pure_callp)
  have c_law_let_1 : Cal P w K mg base 4 "_law_let" (spLet 0) := mk_law_let (j := 3) T (c_law_draw.mono (by decide)) (c_law_fits.mono (by decide)) (c_law_leaf.mono (by decide)) (c_law_part_0.mono (by decide)) (pure_letp)
  have c_law_part_1 : Cal P w K mg base 5 "_law_part" (spPart 1) := mk_law_part (j := 4) T (c_law_draw.mono (by decide)) (c_law_leaf.mono (by decide)) (c_law_call_1.mono (by decide)) (c_law_let_1.mono (by decide)) (c_law_fits.mono (by decide)) (c_law_part_0.mono (by decide)) (pure_part)
  have c_law_call_2 : Cal P w K mg base 6 "_law_call" (spCallP 1) := mk_law_call (j := 5) T (c_law_draw.mono (by decide)) (c_law_fits.mono (by decide)) (c_law_leaf.mono (by decide)) (c_law_part_1.mono (by decide)) (pure_callp)
  have c_law_let_2 : Cal P w K mg base 6 "_law_let" (spLet 1) := mk_law_let (j := 5) T (c_law_draw.mono (by decide)) (c_law_fits.mono (by decide)) (c_law_leaf.mono (by decide)) (c_law_part_1.mono (by decide)) (pure_letp)
  have c_law_part_2 : Cal P w K mg base 7 "_law_part" (spPart 2) := mk_law_part (j := 6) T (c_law_draw.mono (by decide)) (c_law_leaf.mono (by decide)) (c_law_call_2.mono (by decide)) (c_law_let_2.mono (by decide)) (c_law_fits.mono (by decide)) (c_law_part_1.mono (by decide)) (pure_part)
  have c_law_call_3 : Cal P w K mg base 8 "_law_call" (spCallP 2) := mk_law_call (j := 7) T (c_law_draw.mono (by decide)) (c_law_fits.mono (by decide)) (c_law_leaf.mono (by decide)) (c_law_part_2.mono (by decide)) (pure_callp)
  have c_law_let_3 : Cal P w K mg base 8 "_law_let" (spLet 2) := mk_law_let (j := 7) T (c_law_draw.mono (by decide)) (c_law_fits.mono (by decide)) (c_law_leaf.mono (by decide)) (c_law_part_2.mono (by decide)) (pure_letp)
  have c_law_part_3 : Cal P w K mg base 9 "_law_part" (spPart 3) := mk_law_part (j := 8) T (c_law_draw.mono (by decide)) (c_law_leaf.mono (by decide)) (c_law_call_3.mono (by decide)) (c_law_let_3.mono (by decide)) (c_law_fits.mono (by decide)) (c_law_part_2.mono (by decide)) (pure_part)
  have c_law_call_4 : Cal P w K mg base 10 "_law_call" (spCallP 3) := mk_law_call (j := 9) T (c_law_draw.mono (by decide)) (c_law_fits.mono (by decide)) (c_law_leaf.mono (by decide)) (c_law_part_3.mono (by decide)) (pure_callp)
  have c_law_let_4 : Cal P w K mg base 10 "_law_let" (spLet 3) := mk_law_let (j := 9) T (c_law_draw.mono (by decide)) (c_law_fits.mono (by decide)) (c_law_leaf.mono (by decide)) (c_law_part_3.mono (by decide)) (pure_letp)
  have c_law_part_4 : Cal P w K mg base 11 "_law_part" (spPart 4) := mk_law_part (j := 10) T (c_law_draw.mono (by decide)) (c_law_leaf.mono (by decide)) (c_law_call_4.mono (by decide)) (c_law_let_4.mono (by decide)) (c_law_fits.mono (by decide)) (c_law_part_3.mono (by decide)) (pure_part)
  have c_law_call_5 : Cal P w K mg base 12 "_law_call" (spCallP 4) := mk_law_call (j := 11) T (c_law_draw.mono (by decide)) (c_law_fits.mono (by decide)) (c_law_leaf.mono (by decide)) (c_law_part_4.mono (by decide)) (pure_callp)
  have c_law_let_5 : Cal P w K mg base 12 "_law_let" (spLet 4) := mk_law_let (j := 11) T (c_law_draw.mono (by decide)) (c_law_fits.mono (by decide)) (c_law_leaf.mono (by decide)) (c_law_part_4.mono (by decide)) (pure_letp)
  have c_law_part_5 : Cal P w K mg base 13 "_law_part" (spPart 5) := mk_law_part (j := 12) T (c_law_draw.mono (by decide)) (c_law_leaf.mono (by decide)) (c_law_call_5.mono (by decide)) (c_law_let_5.mono (by decide)) (c_law_fits.mono (by decide)) (c_law_part_4.mono (by decide)) (pure_part)
  have c_law_call_6 : Cal P w K mg base 14 "_law_call" (spCallP 5) := mk_law_call (j := 13) T (c_law_draw.mono (by decide)) (c_law_fits.mono (by decide)) (c_law_leaf.mono (by decide)) (c_law_part_5.mono (by decide)) (pure_callp)
  have c_law_let_6 : Cal P w K mg base 14 "_law_let" (spLet 5) := mk_law_let (j := 13) T (c_law_draw.mono (by decide)) (c_law_fits.mono (by decide)) (c_law_leaf.mono (by decide)) (c_law_part_5.mono (by decide)) (pure_letp)
  have c_law_part_6 : Cal P w K mg base 15 "_law_part" (spPart 6) := mk_law_part (j := 14) T (c_law_draw.mono (by decide)) (c_law_leaf.mono (by decide)) (c_law_call_6.mono (by decide)) (c_law_let_6.mono (by decide)) (c_law_fits.mono (by decide)) (c_law_part_5.mono (by decide)) (pure_part)
  have c_law_call_7 : Cal P w K mg base 16 "_law_call" (spCallP 6) := mk_law_call (j := 15) T (c_law_draw.mono (by decide)) (c_law_fits.mono (by decide)) (c_law_leaf.mono (by decide)) (c_law_part_6.mono (by decide)) (pure_callp)
  have c_law_let_7 : Cal P w K mg base 16 "_law_let" (spLet 6) := mk_law_let (j := 15) T (c_law_draw.mono (by decide)) (c_law_fits.mono (by decide)) (c_law_leaf.mono (by decide)) (c_law_part_6.mono (by decide)) (pure_letp)
  have c_law_part_7 : Cal P w K mg base 17 "_law_part" (spPart 7) := mk_law_part (j := 16) T (c_law_draw.mono (by decide)) (c_law_leaf.mono (by decide)) (c_law_call_7.mono (by decide)) (c_law_let_7.mono (by decide)) (c_law_fits.mono (by decide)) (c_law_part_6.mono (by decide)) (pure_part)
  have c_law_call_8 : Cal P w K mg base 18 "_law_call" (spCallP 7) := mk_law_call (j := 17) T (c_law_draw.mono (by decide)) (c_law_fits.mono (by decide)) (c_law_leaf.mono (by decide)) (c_law_part_7.mono (by decide)) (pure_callp)
  have c_law_let_8 : Cal P w K mg base 18 "_law_let" (spLet 7) := mk_law_let (j := 17) T (c_law_draw.mono (by decide)) (c_law_fits.mono (by decide)) (c_law_leaf.mono (by decide)) (c_law_part_7.mono (by decide)) (pure_letp)
  have c_law_part_8 : Cal P w K mg base 19 "_law_part" (spPart 8) := mk_law_part (j := 18) T (c_law_draw.mono (by decide)) (c_law_leaf.mono (by decide)) (c_law_call_8.mono (by decide)) (c_law_let_8.mono (by decide)) (c_law_fits.mono (by decide)) (c_law_part_7.mono (by decide)) (pure_part)
  have c_law_call_9 : Cal P w K mg base 20 "_law_call" (spCallP 8) := mk_law_call (j := 19) T (c_law_draw.mono (by decide)) (c_law_fits.mono (by decide)) (c_law_leaf.mono (by decide)) (c_law_part_8.mono (by decide)) (pure_callp)
  have c_law_let_9 : Cal P w K mg base 20 "_law_let" (spLet 8) := mk_law_let (j := 19) T (c_law_draw.mono (by decide)) (c_law_fits.mono (by decide)) (c_law_leaf.mono (by decide)) (c_law_part_8.mono (by decide)) (pure_letp)
  have c_law_part_9 : Cal P w K mg base 21 "_law_part" (spPart 9) := mk_law_part (j := 20) T (c_law_draw.mono (by decide)) (c_law_leaf.mono (by decide)) (c_law_call_9.mono (by decide)) (c_law_let_9.mono (by decide)) (c_law_fits.mono (by decide)) (c_law_part_8.mono (by decide)) (pure_part)
  have c_law_call_10 : Cal P w K mg base 22 "_law_call" (spCallP 9) := mk_law_call (j := 21) T (c_law_draw.mono (by decide)) (c_law_fits.mono (by decide)) (c_law_leaf.mono (by decide)) (c_law_part_9.mono (by decide)) (pure_callp)
  have c_law_let_10 : Cal P w K mg base 22 "_law_let" (spLet 9) := mk_law_let (j := 21) T (c_law_draw.mono (by decide)) (c_law_fits.mono (by decide)) (c_law_leaf.mono (by decide)) (c_law_part_9.mono (by decide)) (pure_letp)
  have c_law_part_10 : Cal P w K mg base 23 "_law_part" (spPart 10) := mk_law_part (j := 22) T (c_law_draw.mono (by decide)) (c_law_leaf.mono (by decide)) (c_law_call_10.mono (by decide)) (c_law_let_10.mono (by decide)) (c_law_fits.mono (by decide)) (c_law_part_9.mono (by decide)) (pure_part)
  have c_law_call_11 : Cal P w K mg base 24 "_law_call" (spCallP 10) := mk_law_call (j := 23) T (c_law_draw.mono (by decide)) (c_law_fits.mono (by decide)) (c_law_leaf.mono (by decide)) (c_law_part_10.mono (by decide)) (pure_callp)
  have c_law_let_11 : Cal P w K mg base 24 "_law_let" (spLet 10) := mk_law_let (j := 23) T (c_law_draw.mono (by decide)) (c_law_fits.mono (by decide)) (c_law_leaf.mono (by decide)) (c_law_part_10.mono (by decide)) (pure_letp)
  have c_law_part_11 : Cal P w K mg base 25 "_law_part" (spPart 11) := mk_law_part (j := 24) T (c_law_draw.mono (by decide)) (c_law_leaf.mono (by decide)) (c_law_call_11.mono (by decide)) (c_law_let_11.mono (by decide)) (c_law_fits.mono (by decide)) (c_law_part_10.mono (by decide)) (pure_part)
  have c_law_call_12 : Cal P w K mg base 26 "_law_call" (spCallP 11) := mk_law_call (j := 25) T (c_law_draw.mono (by decide)) (c_law_fits.mono (by decide)) (c_law_leaf.mono (by decide)) (c_law_part_11.mono (by decide)) (pure_callp)
  have c_law_let_12 : Cal P w K mg base 26 "_law_let" (spLet 11) := mk_law_let (j := 25) T (c_law_draw.mono (by decide)) (c_law_fits.mono (by decide)) (c_law_leaf.mono (by decide)) (c_law_part_11.mono (by decide)) (pure_letp)
  have c_law_part_12 : Cal P w K mg base 27 "_law_part" (spPart 12) := mk_law_part (j := 26) T (c_law_draw.mono (by decide)) (c_law_leaf.mono (by decide)) (c_law_call_12.mono (by decide)) (c_law_let_12.mono (by decide)) (c_law_fits.mono (by decide)) (c_law_part_11.mono (by decide)) (pure_part)
  have c_law_call := c_law_call_12
  have c_law_let := c_law_let_12
  have c_law_part := c_law_part_12
  have c_law_loop : Cal P w K mg base 28 "_law_loop" (spLoop) := mk_law_loop (j := 27) T (c_law_part.mono (by decide)) (c_law_draw.mono (by decide)) (pure_loop)
  have c_law_body : Cal P w K mg base 29 "_law_body" (spBody) := mk_law_body (j := 28) T (c_law_draw.mono (by decide)) (c_law_loop.mono (by decide)) (c_law_part.mono (by decide)) (pure_body)
  have c_law_program : Cal P w K mg base 30 "_law_program" (spProgram) := mk_law_program (j := 29) T (c_law_names.mono (by decide)) (c_law_draw.mono (by decide)) (c_law_body.mono (by decide)) (pure_program)
  have c_law_nested : Cal P w K mg base 2 "_law_nested" (spNested) := mk_law_nested (j := 1) T (c_law_draw.mono (by decide)) (pure_nested)
  have c_law_things : Cal P w K mg base 3 "_law_things" (spThings06) := mk_law_things (j := 2) T (c_law_nested.mono (by decide)) (c_law_draw.mono (by decide)) (pure_things06)
  have c_is_name : Cal P w K mg base 1 "is_name" (spIsNameX) := mk_is_name (j := 0) T  (pure_isnameX)
  have c_is_whole : Cal P w K mg base 1 "is_whole" (spIsWholeX) := mk_is_whole (j := 0) T  (pure_iswholeX)
  have c_is_small : Cal P w K mg base 1 "is_small" (spIsSmallX) := mk_is_small (j := 0) T  (pure_issmallX)
  have c_is_row : Cal P w K mg base 2 "is_row" (spIsRowX) := mk_is_row (j := 1) T (c_is_name.mono (by decide)) (pure_isrowX)
  have c_are_rows : Cal P w K mg base 3 "are_rows" (spAreRowsX) := mk_are_rows (j := 2) T (c_is_row.mono (by decide)) (pure_arerowsX)
  have c_parts_of : Cal P w K mg base 4 "parts_of" (spPartsOfX) := mk_parts_of (j := 3) T (c_is_whole.mono (by decide)) (c_is_small.mono (by decide)) (c_is_name.mono (by decide)) (c_are_rows.mono (by decide)) (pure_partsofX T.k_PARTS)
  have c_is_body : Cal P w K mg base 5 "is_body" (spIsBodyX) := mk_is_body (j := 4) T (c_parts_of.mono (by decide)) (pure_isbodyX)
  have c_is_function : Cal P w K mg base 6 "is_function" (spIsFunctionX) := mk_is_function (j := 5) T (c_is_name.mono (by decide)) (c_is_body.mono (by decide)) (pure_isfunctionX)
  have c_is_built : Cal P w K mg base 7 "is_built" (spIsBuiltX) := mk_is_built (j := 6) T (c_is_function.mono (by decide)) (c_is_body.mono (by decide)) (pure_isbuiltX)
  have c_Twice___init__ : Xal P w K mg base 2 "Twice" (He.ga K "Twice") (spXInit K (He.ga K "Twice") "name") := mk_Twice___init__ (j := 0) T  (pure_initTwice T.errs)
  have c_Hidden___init__ : Xal P w K mg base 2 "Hidden" (He.ga K "Hidden") (spXInit K (He.ga K "Hidden") "name") := mk_Hidden___init__ (j := 0) T  (pure_initHidden T.errs)
  have c_look_unlike : CalX P w K mg base 3 "look_unlike" (spUnlikeX K) := mk_look_unlike (j := 2) T (c_Hidden___init__.mono (by decide)) (pure_unlikeX)
  have c_within : Cal P w K mg base 1 "within" (spKids) := mk_within (j := 0) T  (pure_within T.k_PARTS)
  have c_in_order : Cal P w K mg base 2 "in_order" (spOrder) := mk_in_order (j := 1) T (c_within.mono (by decide)) (pure_order)
  have c_row_names : Cal P w K mg base 3 "row_names" (spRowNames) := mk_row_names (j := 2) T (c_in_order.mono (by decide)) (pure_rownames)
  have c_Stranger___init__ : Xal P w K mg base 2 "Stranger" (He.ga K "Stranger") (spXInit K (He.ga K "Stranger") "name") := mk_Stranger___init__ (j := 0) T  (pure_initStranger T.errs)
  have c_look_named_0 : CalX P w K mg base 1 "look_named" (spNamedX K 0) := nv_look_named T (fun vs H Q E ⟨_, _, _, p, _, _, _, _, _, h, _⟩ => by have := p.mxd_kids; omega)
  have c_look_named_1 : CalX P w K mg base 3 "look_named" (spNamedX K 1) := mk_look_named (j := 2) T (c_Stranger___init__.mono (by decide)) (c_look_named_0.mono (by decide)) (pure_namedX T.k_PARTS)
  have c_look_named_2 : CalX P w K mg base 4 "look_named" (spNamedX K 2) := mk_look_named (j := 3) T (c_Stranger___init__.mono (by decide)) (c_look_named_1.mono (by decide)) (pure_namedX T.k_PARTS)
  have c_look_named_3 : CalX P w K mg base 5 "look_named" (spNamedX K 3) := mk_look_named (j := 4) T (c_Stranger___init__.mono (by decide)) (c_look_named_2.mono (by decide)) (pure_namedX T.k_PARTS)
  have c_look_named_4 : CalX P w K mg base 6 "look_named" (spNamedX K 4) := mk_look_named (j := 5) T (c_Stranger___init__.mono (by decide)) (c_look_named_3.mono (by decide)) (pure_namedX T.k_PARTS)
  have c_look_named_5 : CalX P w K mg base 7 "look_named" (spNamedX K 5) := mk_look_named (j := 6) T (c_Stranger___init__.mono (by decide)) (c_look_named_4.mono (by decide)) (pure_namedX T.k_PARTS)
  have c_look_named_6 : CalX P w K mg base 8 "look_named" (spNamedX K 6) := mk_look_named (j := 7) T (c_Stranger___init__.mono (by decide)) (c_look_named_5.mono (by decide)) (pure_namedX T.k_PARTS)
  have c_look_named_7 : CalX P w K mg base 9 "look_named" (spNamedX K 7) := mk_look_named (j := 8) T (c_Stranger___init__.mono (by decide)) (c_look_named_6.mono (by decide)) (pure_namedX T.k_PARTS)
  have c_look_named_8 : CalX P w K mg base 10 "look_named" (spNamedX K 8) := mk_look_named (j := 9) T (c_Stranger___init__.mono (by decide)) (c_look_named_7.mono (by decide)) (pure_namedX T.k_PARTS)
  have c_look_named_9 : CalX P w K mg base 11 "look_named" (spNamedX K 9) := mk_look_named (j := 10) T (c_Stranger___init__.mono (by decide)) (c_look_named_8.mono (by decide)) (pure_namedX T.k_PARTS)
  have c_look_named_10 : CalX P w K mg base 12 "look_named" (spNamedX K 10) := mk_look_named (j := 11) T (c_Stranger___init__.mono (by decide)) (c_look_named_9.mono (by decide)) (pure_namedX T.k_PARTS)
  have c_look_named_11 : CalX P w K mg base 13 "look_named" (spNamedX K 11) := mk_look_named (j := 12) T (c_Stranger___init__.mono (by decide)) (c_look_named_10.mono (by decide)) (pure_namedX T.k_PARTS)
  have c_look_named_12 : CalX P w K mg base 14 "look_named" (spNamedX K 12) := mk_look_named (j := 13) T (c_Stranger___init__.mono (by decide)) (c_look_named_11.mono (by decide)) (pure_namedX T.k_PARTS)
  have c_look_named := c_look_named_12
  have c_looked : CalX P w K mg base 15 "looked" (spLookedX K) := mk_looked (j := 14) T (c_is_built.mono (by decide)) (c_Twice___init__.mono (by decide)) (c_look_unlike.mono (by decide)) (c_row_names.mono (by decide)) (c_look_named.mono (by decide)) (pure_lookedX)
  have c_law_told : Cal P w K mg base 16 "_law_told" (spToldX) := mk_law_told (j := 15) T (c_looked.mono (by decide)) (pure_toldX T.errs)
  exact mkl_law (j := 30) F T (c_law_pen.mono (by decide)) (c_law_program.mono (by decide)) (c_law_things.mono (by decide)) (c_law_told.mono (by decide)) (c_looked.mono (by decide)) (pure_law)
end
end Lz
open PySem PySem.W PySem.Calls PyProof.Rows
theorem PySem.Challenge.cw_lazywebs_k06_what_is_no_program_holds : PySem.Challenge.rw_lazywebs_k06_what_is_no_program.Holds := by
  w_on; o_law
  refine HandSHeadRun.head_any (r := OpenLaw.row PySem.Challenge.rw_lazywebs_k06_what_is_no_program) (q := view (OpenLaw.row PySem.Challenge.rw_lazywebs_k06_what_is_no_program).prog [50]) (H := Lz.hk) (ob := Lz.ob) (M := 6000) (loose := Lz.hloose) (d := HandSHeadRun.topDef (OpenLaw.row PySem.Challenge.rw_lazywebs_k06_what_is_no_program).prog 50) (kwd := []) Lz.ob_eq
    (by kernel_rfl) (fun s => by kernel_rfl) Lz.hrun (by kernel_rfl) (by kernel_rfl) (by kernel_rfl) (by rfl) (by first | assumption | decide +kernel) (by decide +kernel) ⟨rfl, rfl, rfl, rfl, rfl, by decide +kernel⟩ ?hw ?hc
  case hw => w_witness2
  case hc =>
    refine L2.walk_ofE (l := PySem.Challenge.rw_lazywebs_k06_what_is_no_program) (n := 63) (k := 31) (x := "_law_script") (CX := L2.CX0) rfl (by decide) (by kernel_rfl) ⟨rfl, by decide, by decide⟩ ?F (fun _ _ _ _ z => z)
    intro w mg fa h Y G hmg0
    obtain ⟨K, KX, c⟩ := Y
    have T := Lz.tx_mk KX G c
    have hmg : mg ("law" : PySem.Str) = some (.ref fa) := by
      have e : (HandSHeadRun.topDef (OpenLaw.row PySem.Challenge.rw_lazywebs_k06_what_is_no_program).prog 50).name = ("law" : PySem.Str) := by kernel_rfl
      rw [← e]
      exact hmg0
    have e := hmg.symm.trans T.f_law
    cases e
    obtain ⟨fd, F⟩ := T.d_law
    have b := L2.FunD.bindsA (ps := ["_law_script"]) F fun _ _ _ _ _ _ us hl => match us, hl with | [_], _ => rfl
    exact ⟨K, fd, Lz.spLaw K, KX, fun s u => b s [u] rfl, fun H a ns hl _ hS => ⟨a, ns, rfl, hS, hl, fun _ => rfl⟩, fun base _ _ => Lz.law_ok T F⟩
#print axioms PySem.Challenge.cw_lazywebs_k06_what_is_no_program_holds
