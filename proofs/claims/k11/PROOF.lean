import PyProof.Rows.All
import Wide.All
import OpenK.AllK
import Wide.FinOn
import KE.KStateDown
import Lean
import HandS.Base
import HandS.Call
import HandS.List
import HandS.Comp
import HandS.Ends
import HandS.Dict
import HandS.Iter
import HandS.Text
import HandS.More
import HandS.Exc
import HandS.Words
import HandS.WordsList
import HandS.Defaults
import HandS.Wide
import HandS.TupAny
import HandS.Flow
import HandS.Style
import HandS.Conv
import HandS.IsInst
import HandS.Head0
import HandS.Head1
import HandS.Head2
import HandS.HeadEnd
import HandS.HeadHook1
import HandS.HeadHook2
import HandS.HeadHook3
import HandS.DeepEq
import PyProof.NeData
import HandS.Codes
import HandS.Zip
import KE.KDictZip
import HandS.HeadHook4
import PySem.Challenge.RW_lazywebs_k11_faults_in_their_order
set_option Elab.async false
set_option linter.all false
set_option maxRecDepth 100000
set_option maxHeartbeats 4000000
namespace Lz
open PySem PySem.Spec PyProof.Rows L2
/-! ### heaps by what is known of them -/
/-- a new object o at p -/
def New (H : Hp) (o : HO) (R : Addr → Hp → Prop) : Prop := ∀ p H', H p = none → H' p = some o → Same H H' → R p H'
/-- but for a all is as it was -/
def Chg (a : Addr) (H H' : Hp) : Prop := ∀ b o, b ≠ a → H b = some o → H' b = some o
/-- the object at a is now o -/
def Put (H : Hp) (a : Addr) (o : HO) (R : Hp → Prop) : Prop := ∀ H', H' a = some o → Chg a H H' → R H'
theorem same_upd {H : Hp} {p : Addr} {o : HO} (h : H p = none) : Same H (upd H p o) := fun b u e => by rw [upd_ne (ne_of_none e h)]; exact e
theorem New.at {H : Hp} {o : HO} {R : Addr → Hp → Prop} (h : New H o R) : ∀ p, H p = none → R p (upd H p o) := fun p hp => h p _ hp upd_same (same_upd hp)
theorem Put.at {H : Hp} {a : Addr} {o : HO} {R : Hp → Prop} (h : Put H a o R) : R (upd H a o) := h _ upd_same fun b u n e => by rw [upd_ne n]; exact e
section
variable {X : Cx}
theorem opr_imp {f : Value → Value → Sem Value} {r r' : R2} (h : OpR X f r) (i : ∀ x y H Q, r' x y H Q → r x y H Q) : OpR X f r' := fun pins s σ H x y v u Q I rx ry q => h pins s σ H x y v u Q I rx ry (i _ _ _ _ q)
theorem callr_imp {f : Value} {r r' : List V → Hp → VK → Prop} (h : CallR X f r) (i : ∀ xs H Q, r' xs H Q → r xs H Q) : CallR X f r' := fun pins s σ H xs us Q I rs q => h pins s σ H xs us Q I rs (i _ _ _ q)
theorem mtr_imp {id : String} {r r' : V → List V → Hp → VK → Prop} (h : MtR X id r) (i : ∀ x xs H Q, r' x xs H Q → r x xs H Q) : MtR X id r' := fun pins s σ H x xs v us Q I rx rs q => h pins s σ H x xs v us Q I rx rs (i _ _ _ _ q)
theorem slr_imp {r r' : V → Option Int → Option Int → Hp → VK → Prop} (h : SlR X r) (i : ∀ x lo hi H Q, r' x lo hi H Q → r x lo hi H Q) : SlR X r' := fun pins s σ H x v vl vu lo hi sl Q I rx hs pl pu q => h pins s σ H x v vl vu lo hi sl Q I rx hs pl pu (i _ _ _ _ _ q)
/-- a reading's upward closure -/
def clA (t : TA) : TA := fun σ H Q => ∃ Q0, t σ H Q0 ∧ ∀ xs H1, Q0 xs H1 → Q xs H1
def clE (t : TE) : TE := fun σ H Q => ∃ Q0, t σ H Q0 ∧ ∀ x H1, Q0 x H1 → Q x H1
theorem pa_cl {es : List Expr} {t : TA} (h : PA X es t) : PA X es (clA t) := ⟨fun pos pins s σ H Q I ⟨Q0, q, i⟩ => thn (h.run pos pins s σ H Q0 I q) fun us s' ⟨vs, H', I', r, q'⟩ => ⟨vs, H', I', r, i _ _ q'⟩⟩
theorem pe_cl {e : Expr} {t : TE} (h : PE X e t) : PE X e (clE t) := ⟨fun pins s σ H Q I ⟨Q0, q, i⟩ => thn (h.run pins s σ H Q0 I q) fun us s' ⟨vs, H', I', r, q'⟩ => ⟨vs, H', I', r, i _ _ q'⟩⟩
/-- displays -/
def tTupN (t : TA) : TE := fun σ H Q => t σ H fun xs H1 => xs.length ≤ sizeLine ∧ New H1 (.tup xs) fun p H2 => Q (.ref p) H2
def tLstN (t : TA) : TE := fun σ H Q => t σ H fun xs H1 => xs.length ≤ sizeLine ∧ New H1 (.lst xs) fun p H2 => Q (.ref p) H2
theorem pe_tupN {es : List Expr} {t : TA} {x1 pos} (h : PA X es t) : PE X (.Tuple es x1 pos) (tTupN t) :=
  ⟨fun pins s σ H Q I q => (pe_tup (pa_cl h)).run pins s σ H Q I ⟨_, q, fun xs H1 ⟨hl, n⟩ => ⟨hl, n.at⟩⟩⟩
theorem pe_lstN {es : List Expr} {t : TA} {pos} (h : PA X es t) : PE X (.List es pos) (tLstN t) :=
  ⟨fun pins s σ H Q I q => (pe_lst (pa_cl h)).run pins s σ H Q I ⟨_, q, fun xs H1 ⟨hl, n⟩ => ⟨hl, n.at⟩⟩⟩
def tDNewKN : TE := fun _ H Q => New H (.dK []) fun p H2 => Q (.ref p) H2
/-- a display of a dict: its pairs while it is empty, then filled -/
def tDispN (trs : List (TE × TE)) : TE := fun σ H Q => New H (.dK []) fun p H1 => tPairs trs σ H1 fun ps H2 => H2 p = some (.dK []) ∧ ∃ kvs : List (Key × V), ps = kvs.map (fun kv => (kV kv.1, kv.2)) ∧ kvs.length ≤ 15 ∧ Put H2 p (.dK (mergeK [] kvs)) fun H' => Q (.ref p) H'
def clP (trs : List (TE × TE)) : List (TE × TE) := trs.map fun q => (clE q.1, clE q.2)
theorem tPairs_cl : ∀ (trs : List (TE × TE)) (σ : L2.St) (H : Hp) (Q Q' : List (V × V) → Hp → Prop), tPairs trs σ H Q → (∀ ps H', Q ps H' → Q' ps H') → tPairs (clP trs) σ H Q'
  | [], σ, H, Q, Q', h, i => i _ _ h
  | (tk, tv) :: r, σ, H, Q, Q', h, i => ⟨_, h, fun x H1 h1 => ⟨_, h1, fun y H2 h2 => tPairs_cl r σ H2 _ _ h2 fun ps H3 h3 => i _ _ h3⟩⟩
theorem pe_dispN {pos : Pos} {keys : List (Option Expr)} {values : List Expr} {trs : List (TE × TE)} (h : PPs X pos keys values (clP trs)) (hall : keys.all (·.isSome) = true) (hl : keys.length = values.length) (h0 : keys ≠ [])
    (h15 : keys.length ≤ 15) : PE X (.Dict keys values pos) (tDispN trs) :=
  ⟨fun pins s σ H Q I q => (pe_disp h hall hl h0 h15).run pins s σ H Q I fun p hp => tPairs_cl trs σ _ _ _ (q p _ hp upd_same (same_upd hp)) fun ps H2 ⟨e, kvs, e1, e2, n⟩ => ⟨e, kvs, e1, e2, n.at⟩⟩
theorem pe_dnewKN {pos} : PE X (.Dict [] [] pos) tDNewKN := ⟨fun pins s σ H Q I q => pe_dnewK.run pins s σ H Q I (New.at q)⟩
end
/-! ### operators, whatever the operands are -/
section
variable {X : Cx}
def rAddG (K : PySem.W.Frag) : R2 := fun x y H Q => (rI0 fun i j => .int (i + j)) x y H Q ∨ (∃ i j, x = .str i ∧ y = .str j ∧ i.length + j.length ≤ sizeLine ∧ Q (.str (i ++ j)) H) ∨
  (∃ l b xs zs, x = .ref l ∧ y = .ref b ∧ H l = some (.lst xs) ∧ H b = some (.lst zs) ∧ xs.length + zs.length ≤ sizeLine ∧ New H (.lst (xs ++ zs)) fun p H' => Q (.ref p) H') ∨
  (∃ a b xs ys, x = .ref a ∧ y = .ref b ∧ SqT K H a xs ∧ SqT K H b ys ∧ xs.length + ys.length ≤ sizeLine ∧
    (xs = [] → Q (.ref b) H) ∧ (xs ≠ [] → ys = [] → Q (.ref a) H) ∧ (xs ≠ [] → ys ≠ [] → New H (.tup (xs ++ ys)) fun p H' => Q (.ref p) H'))
theorem op_addG : OpR X (binaryOp .Add) (rAddG X.K) := opr_imp (op_add.or (op_add_str.or (op_cat.or op_catA))) fun x y H Q h => by
  rcases h with h | h | ⟨l, b, xs, zs, e1, e2, h1, h2, hl, n⟩ | ⟨a, b, xs, ys, e1, e2, h1, h2, hl, n0, n1, n⟩
  · exact .inl h
  · exact .inr (.inl h)
  · exact .inr (.inr (.inl ⟨l, b, xs, zs, e1, e2, h1, h2, hl, n.at⟩))
  · exact .inr (.inr (.inr ⟨a, b, xs, ys, e1, e2, h1, h2, hl, n0, n1, fun x1 y1 => (n x1 y1).at⟩))
abbrev rSubG : R2 := rI0 fun i j => .int (i - j)
def rMulG : R2 := fun x y H Q => (rI CMul fun i j => .int (i * j)) x y H Q ∨ (rI CMulW fun i j => .int (i * j)) x y H Q
theorem op_mulG : OpR X (binaryOp .Mult) rMulG := op_mul.or op_mulW
abbrev rDivG : R2 := rI CDivW fun i j => .int (i / j)
abbrev rModG : R2 := rI (fun _ j => 0 < j) fun i j => .int (i % j)
abbrev rPowG : R2 := rI CPow fun i j => .int (i ^ j.toNat)
/-- values that are like themselves at once: those of hits_all, and one and the same object -/
def flatR : V → Bool
  | .ref _ => true
  | v => flatB v
theorem eqAt_sameR {A : Around} {s : Shared} {v : V} {u u' : Value} (r : RelV v u) (r' : RelV v u') (f : flatR v = true) : SeqAt.EqAt A s u u' true := by
  cases v with
  | ref a =>
    obtain rfl : u = Value.ref a := r
    obtain rfl : u' = Value.ref a := r'
    exact SeqAt.EqAt.same _
  | _ => exact eqAt_same r r' f
theorem hits_allR {κ : Type} [DecidableEq κ] {A : Around} {s : Shared} {kvs : List (κ × V)} {vb : List (κ × Value)} (rb : KV kvs vb) {ks : List (κ × V)} {va : List (κ × Value)} (ra : KV ks va) :
    (∀ p ∈ ks, valV kvs p.1 = some p.2 ∧ flatR p.2 = true) → PySem.W.KeqHits A s vb va true := by
  unfold KV at ra
  induction ra with
  | nil => intro _; exact .nil
  | @cons p q ps qs h t ih =>
    intro hp
    obtain ⟨h1, h2⟩ := h
    obtain ⟨e, f⟩ := hp p List.mem_cons_self
    have rr : RelO (some p.2) (valueAt vb p.1) := by rw [← e]; exact rb.val p.1
    obtain ⟨y, hy, ry⟩ := rr.some_of
    obtain ⟨k, v⟩ := q
    have h1' : p.1 = k := h1
    rw [h1'] at hy
    show PySem.W.KeqHits A s vb ((k, v) :: qs) (true && true)
    exact .hit hy (eqAt_sameR h2 ry f) (ih fun p' hm => hp p' (List.mem_cons_of_mem _ hm))
/-- two dicts that hold the same, whatever the order of their keys is; values flat or the same objects -/
def rSameD (b : Bool) : R2 := fun x y H Q => ∃ p q ks ls, x = .ref p ∧ y = .ref q ∧ H p = some (.dK ks) ∧ H q = some (.dK ls) ∧ ks.length = ls.length ∧ (∀ p ∈ ks, valV ls p.1 = some p.2 ∧ flatR p.2 = true) ∧ Q (.bl b) H
theorem op_eq_dictR (hu : X.A.units < cLine) : OpR X (compareOp .Eq) (rSameD true) := by
  intro pins s σ H x y v u Q I rx ry h
  obtain ⟨a, b, ks, ls, rfl, rfl, ea, eb, hlen, hp, q⟩ := h
  obtain rfl : v = Value.ref a := rx
  obtain rfl : u = Value.ref b := ry
  obtain ⟨_, ya, va, ra, da⟩ := (show ObjOk X.prog X.w H s.heap a (.dK ks) from I.hok a _ ea)
  obtain ⟨_, yb, vb, rb, db⟩ := (show ObjOk X.prog X.w H s.heap b (.dK ls) from I.hok b _ eb)
  have hl : va.length = vb.length := by rw [← ra.length, ← rb.length]; exact hlen
  exact PySem.W.keq_eq (knd := mixKind X.prog X.w) (r := true) ya yb da db hu (fun _ => hits_allR rb ra hp) (fin_bl I q (by simp [hl]))
theorem op_ne_dictR (hu : X.A.units < cLine) : OpR X (compareOp .NotEq) (rSameD false) := by
  intro pins s σ H x y v u Q I rx ry h
  obtain ⟨a, b, ks, ls, rfl, rfl, ea, eb, hlen, hp, q⟩ := h
  obtain rfl : v = Value.ref a := rx
  obtain rfl : u = Value.ref b := ry
  obtain ⟨_, ya, va, ra, da⟩ := (show ObjOk X.prog X.w H s.heap a (.dK ks) from I.hok a _ ea)
  obtain ⟨_, yb, vb, rb, db⟩ := (show ObjOk X.prog X.w H s.heap b (.dK ls) from I.hok b _ eb)
  have hl : va.length = vb.length := by rw [← ra.length, ← rb.length]; exact hlen
  exact PySem.W.keq_ne (knd := mixKind X.prog X.w) (r := true) ya yb da db hu (fun _ => hits_allR rb ra hp) (fin_bl I q (by simp [hl]))
end
/-! ### alike: by structure, down to flat values or to one and the same object; however deep (the stack has room) -/
/-- two lists, two tuples of alike items -/
def LkR (K : PySem.W.Frag) (H : Hp) (E : V → V → Prop) (x y : V) : Prop :=
  (∃ a b xs ys, x = .ref a ∧ y = .ref b ∧ SqL K H a xs ∧ SqL K H b ys ∧ Paired E xs ys) ∨ ∃ a b xs ys, x = .ref a ∧ y = .ref b ∧ SqT K H a xs ∧ SqT K H b ys ∧ Paired E xs ys
def Lk (K : PySem.W.Frag) (H : Hp) : Nat → V → V → Prop
  | 0 => fun _ _ => False
  | n + 1 => fun x y => (x = y ∧ flatB x = true) ∨ (∃ a, x = .ref a ∧ y = .ref a) ∨ LkR K H (Lk K H n) x y
theorem items_like {A : Around} {s : Shared} {F : V → V → Prop} (ih : ∀ x y v u, F x y → RelV x v → RelV y u → SeqAt.EqAt A s v u true) {xs ys : List V} (hp : Paired F xs ys) :
    ∀ {us ws : List Value}, Vals xs us → Vals ys ws → ∀ j (h1 : j < us.length) (h2 : j < ws.length), SeqAt.EqAt A s us[j] ws[j] true := by
  induction hp with
  | nil =>
    intro us ws r1 r2 j h1 h2
    cases r1
    exact absurd h1 (Nat.not_lt_zero j)
  | cons h _ k =>
    intro us ws r1 r2 j h1 h2
    cases r1 with
    | cons a1 b1 =>
      cases r2 with
      | cons a2 b2 =>
        cases j with
        | zero => exact ih _ _ _ _ h a1 a2
        | succ j => exact k b1 b2 j (Nat.lt_of_succ_lt_succ h1) (Nat.lt_of_succ_lt_succ h2)
section
variable {X : Cx} {pins : List (Addr × Obj)} {σ : L2.St} {H : Hp} {s : Shared}
/-- both, asked by == or by !=: R is what is told of lists and of tuples -/
theorem like_run {R : Around → Shared → Value → Value → Bool → Prop} {t : Bool} (I : Inv X pins σ H s) {A : Around} {F : V → V → Prop} (hu : A.units < cLine)
    (hl : ∀ {l b : Addr} {items items2 : Array Value} {e : Nat → Bool}, s.heap.IsList l items → s.heap.IsList b items2 → items.size = items2.size → (∀ j (h1 : j < items.size) (h2 : j < items2.size), SeqAt.EqAt A.in1 s items[j] items2[j] (e j)) →
      (List.range items.size).all e = true → R A s (.ref l) (.ref b) t)
    (ht : ∀ {l b : Addr} {items items2 : Array Value} {e : Nat → Bool}, s.heap.IsTuple l items → s.heap.IsTuple b items2 → (∀ j (h1 : j < items.size) (h2 : j < items2.size), SeqAt.EqAt A.in1 s items[j] items2[j] (e j)) →
      ((List.range (min items.size items2.size)).all e && items.size == items2.size) = true → R A s (.ref l) (.ref b) t)
    (ih : ∀ x y v u, F x y → RelV x v → RelV y u → SeqAt.EqAt A.in1 s v u true) {x y : V} {v u : Value} (h : LkR X.K H F x y) (rx : RelV x v) (ry : RelV y u) : R A s v u t := by
  rcases h with ⟨a, b, xs, ys, rfl, rfl, ha, hb, hp⟩ | ⟨a, b, xs, ys, rfl, rfl, ha, hb, hp⟩
  · cases (show v = Value.ref a from rx)
    cases (show u = Value.ref b from ry)
    obtain ⟨us, r1, p1, _⟩ := I.list ha
    obtain ⟨ws, r2, p2, _⟩ := I.list hb
    have hsz : us.toArray.size = ws.toArray.size := by
      rw [List.size_toArray, List.size_toArray, ← r1.length, ← r2.length]
      exact Paired.length hp
    refine hl (e := fun _ => true) p1.isList p2.isList hsz (fun j h1 h2 => ?_) (List.all_eq_true.mpr fun _ _ => rfl)
    have k := items_like ih hp r1 r2 j (by simpa using h1) (by simpa using h2)
    simpa using k
  · cases (show v = Value.ref a from rx)
    cases (show u = Value.ref b from ry)
    obtain ⟨us, r1, p1, _⟩ := I.tuple ha
    obtain ⟨ws, r2, p2, _⟩ := I.tuple hb
    have hsz : us.toArray.size = ws.toArray.size := by
      rw [List.size_toArray, List.size_toArray, ← r1.length, ← r2.length]
      exact Paired.length hp
    refine ht (e := fun _ => true) p1 p2 (fun j h1 h2 => ?_) ?_
    · have k := items_like ih hp r1 r2 j (by simpa using h1) (by simpa using h2)
      simpa using k
    · rw [Bool.and_eq_true]
      exact ⟨List.all_eq_true.mpr fun _ _ => rfl, by simpa using hsz⟩
theorem lk_eqAt (I : Inv X pins σ H s) : ∀ (n : Nat) (A : Around), A.units + n < cLine → ∀ (x y : V) (v u : Value), Lk X.K H n x y → RelV x v → RelV y u → SeqAt.EqAt A s v u true
  | 0, _, _, _, _, _, _, h, _, _ => (show False from h).elim
  | n + 1, A, hu, x, y, v, u, h, rx, ry => by
    rcases h with ⟨rfl, f⟩ | ⟨a, rfl, rfl⟩ | h
    · exact eqAt_same rx ry f
    · cases (show v = Value.ref a from rx)
      cases (show u = Value.ref a from ry)
      exact SeqAt.EqAt.same _
    · have hu1 : A.units < cLine := by omega
      have step : SeqAt.RcAt A s v u true := like_run (R := SeqAt.RcAt) I hu1 (fun h1 h2 h3 h4 h5 => h5 ▸ SeqAt.RcAt.lists h1 h2 h3 hu1 h4) (fun h1 h2 h4 h5 => h5 ▸ SeqAt.RcAt.tuples h1 h2 hu1 h4)
        (lk_eqAt I n A.in1 (by show A.units + 1 + n < cLine; omega)) h rx ry
      obtain ⟨a, b, rfl, rfl⟩ : ∃ a b, x = .ref a ∧ y = .ref b := by
        rcases h with ⟨a, b, _, _, e1, e2, _⟩ | ⟨a, b, _, _, e1, e2, _⟩
        · exact ⟨a, b, e1, e2⟩
        · exact ⟨a, b, e1, e2⟩
      cases (show v = Value.ref a from rx)
      cases (show u = Value.ref b from ry)
      by_cases e : a = b
      · subst e
        exact SeqAt.EqAt.same _
      · exact SeqAt.EqAt.of_refs e step
end
section
variable {X : Cx}
/-- a == b, a != b of two lists, two tuples that are alike -/
def rLikeN (K : PySem.W.Frag) (N : Nat) (t : Bool) : R2 := fun x y H Q => ∃ n, n ≤ N ∧ LkR K H (Lk K H n) x y ∧ Q (.bl t) H
abbrev rLike (K : PySem.W.Frag) (t : Bool) : R2 := rLikeN K 150 t
theorem op_eqLike {N : Nat} (hu : X.A.units + (N + 50) < cLine) : OpR X (compareOp .Eq) (rLikeN X.K N true) := by
  intro pins s σ H x y v u Q I rx ry h
  obtain ⟨n, hn, h, q⟩ := h
  have hu1 : X.A.units < cLine := by omega
  have step : SeqAt.RcAt X.A s v u true := like_run (R := SeqAt.RcAt) I hu1 (fun h1 h2 h3 h4 h5 => h5 ▸ SeqAt.RcAt.lists h1 h2 h3 hu1 h4) (fun h1 h2 h4 h5 => h5 ▸ SeqAt.RcAt.tuples h1 h2 hu1 h4)
    (lk_eqAt I n X.A.in1 (by show X.A.units + 1 + n < cLine; omega)) h rx ry
  exact step X.prog X.w X.xe _ ⟨.bl true, H, I, rfl, q⟩
theorem op_neLike {N : Nat} (hu : X.A.units + (N + 50) < cLine) : OpR X (compareOp .NotEq) (rLikeN X.K N false) := by
  intro pins s σ H x y v u Q I rx ry h
  obtain ⟨n, hn, h, q⟩ := h
  have hu1 : X.A.units < cLine := by omega
  have step : SeqAt.RcNeAt X.A s v u false := like_run (R := SeqAt.RcNeAt) I hu1
    (fun h1 h2 h3 h4 h5 => by have := SeqAt.RcNeAt.lists h1 h2 h3 hu1 h4; rw [h5] at this; exact this) (fun h1 h2 h4 h5 => by have := SeqAt.RcNeAt.tuples h1 h2 hu1 h4; rw [h5] at this; exact this)
    (lk_eqAt I n X.A.in1 (by show X.A.units + 1 + n < cLine; omega)) h rx ry
  exact step X.prog X.w X.xe _ ⟨.bl false, H, I, rfl, q⟩
end
section
variable {X : Cx}
/-- two lists of unlike lengths -/
def rLens (K : PySem.W.Frag) (t : Bool) : R2 := fun x y H Q => ∃ a b xs ys, x = .ref a ∧ y = .ref b ∧ SqL K H a xs ∧ SqL K H b ys ∧ xs.length ≠ ys.length ∧ Q (.bl t) H
theorem op_eqLens (hu : X.A.units < cLine) : OpR X (compareOp .Eq) (rLens X.K false) := by
  intro pins s σ H x y v u Q I rx ry ⟨a, b, xs, ys, e1, e2, ha, hb, hn, q⟩
  subst e1
  subst e2
  cases (show v = Value.ref a from rx)
  cases (show u = Value.ref b from ry)
  obtain ⟨us, r1, p1, _⟩ := I.list ha
  obtain ⟨ws, r2, p2, _⟩ := I.list hb
  have e : (us.toArray.size != ws.toArray.size) = true := by rw [List.size_toArray, List.size_toArray, ← r1.length, ← r2.length]; simpa using hn
  exact (SeqAt.RcAt.lists_lengths p1.isList p2.isList e hu) X.prog X.w X.xe _ ⟨.bl false, H, I, rfl, q⟩
theorem op_neLens (hu : X.A.units < cLine) : OpR X (compareOp .NotEq) (rLens X.K true) := by
  intro pins s σ H x y v u Q I rx ry ⟨a, b, xs, ys, e1, e2, ha, hb, hn, q⟩
  subst e1
  subst e2
  cases (show v = Value.ref a from rx)
  cases (show u = Value.ref b from ry)
  obtain ⟨us, r1, p1, _⟩ := I.list ha
  obtain ⟨ws, r2, p2, _⟩ := I.list hb
  have e : (us.toArray.size != ws.toArray.size) = true := by rw [List.size_toArray, List.size_toArray, ← r1.length, ← r2.length]; simpa using hn
  exact (SeqAt.RcNeAt.lists_lengths p1.isList p2.isList e hu) X.prog X.w X.xe _ ⟨.bl true, H, I, rfl, q⟩
def rEqG (K : PySem.W.Frag) : R2 := fun x y H Q => rEq x y H Q ∨ rEqD K x y H Q ∨ rSameD true x y H Q ∨ rLike K true x y H Q ∨ rLens K false x y H Q
def rNeG (K : PySem.W.Frag) : R2 := fun x y H Q => rNe x y H Q ∨ rNeD K x y H Q ∨ rSameD false x y H Q ∨ rLike K false x y H Q ∨ rLens K true x y H Q
theorem op_eqG (hu : X.A.units + 200 < cLine) : OpR X (compareOp .Eq) (rEqG X.K) := op_eq.or ((op_eqD (by omega)).or ((op_eq_dictR (by omega)).or ((op_eqLike hu).or (op_eqLens (by omega)))))
theorem op_neG (hu : X.A.units + 200 < cLine) : OpR X (compareOp .NotEq) (rNeG X.K) := op_ne.or ((op_neD (by omega)).or ((op_ne_dictR (by omega)).or ((op_neLike hu).or (op_neLens (by omega)))))
theorem hu2_of {k : Nat} {A : Around} (hr : Room k A) : A.units + 200 < cLine := by have := hr.un; omega
/-- the same where there is more room: alike up to a thousand deep -/
def rEqB (K : PySem.W.Frag) : R2 := fun x y H Q => rEqG K x y H Q ∨ rLikeN K 1000 true x y H Q
def rNeB (K : PySem.W.Frag) : R2 := fun x y H Q => rNeG K x y H Q ∨ rLikeN K 1000 false x y H Q
theorem op_eqB (hu : X.A.units + 1050 < cLine) : OpR X (compareOp .Eq) (rEqB X.K) := (op_eqG (by omega)).or (op_eqLike (N := 1000) (by omega))
theorem op_neB (hu : X.A.units + 1050 < cLine) : OpR X (compareOp .NotEq) (rNeB X.K) := (op_neG (by omega)).or (op_neLike (N := 1000) (by omega))
theorem hu3_of {j : Nat} {A : Around} (hj : 60 ≤ j) (hr : Room j A) : A.units + 1050 < cLine := by have := hr.un; omega
abbrev rLtG : R2 := rI0 fun i j => .bl (decide (i < j))
abbrev rLeG : R2 := rI0 fun i j => .bl (decide (i ≤ j))
abbrev rGtG : R2 := rI0 fun i j => .bl (decide (j < i))
abbrev rGeG : R2 := rI0 fun i j => .bl (decide (j ≤ i))
/-- y in a tracked dict -/
def rInT (neg : Bool) : R2 := fun y x H Q => ∃ a o, x = .ref a ∧ DGet H a y o ∧ Q (.bl (if neg then !o.isSome else o.isSome)) H
theorem op_in_t (hu : X.A.units + 1 < cLine) : OpR X (compareOp .In) (rInT false) := by
  intro pins s σ H y x u v Q I ry rx h
  obtain ⟨a, o, rfl, g, q⟩ := h
  cases rx
  exact d_in hu I g ry fun s' I' => ⟨.bl o.isSome, H, I', rfl, q⟩
theorem op_notIn_t (hu : X.A.units + 1 < cLine) : OpR X (compareOp .NotIn) (rInT true) := by
  intro pins s σ H y x u v Q I ry rx h
  obtain ⟨a, o, rfl, g, q⟩ := h
  cases rx
  exact d_notIn hu I g ry fun s' I' => ⟨.bl (!o.isSome), H, I', rfl, q⟩
/-- the written dict at d holds z's value, or nothing -/
def KGet (K : PySem.W.Frag) (w : World) (d : Addr) (z : Str) (r : Option V) : Prop :=
  ∃ es n, KDict K w d es n ∧ ((r = none ∧ PySem.W.nsIn K d z = some none) ∨ ∃ u v, r = some v ∧ PySem.W.nsIn K d z = some (some u) ∧ RelV v u)
def rInK (K : PySem.W.Frag) (w : World) (neg : Bool) : R2 := fun y x H Q => ∃ z d r, y = .str z ∧ x = .ref d ∧ KGet K w d z r ∧ Q (.bl (if neg then !r.isSome else r.isSome)) H
theorem KGet.ns {K : PySem.W.Frag} {w : World} {d : Addr} {z : Str} {r : Option V} (h : KGet K w d z r) : ∃ es n r', KDict K w d es n ∧ PySem.W.nsIn K d z = some r' ∧ r'.isSome = r.isSome := by
  obtain ⟨es, n, D, ⟨rfl, e⟩ | ⟨u, v, rfl, e, _⟩⟩ := h
  · exact ⟨es, n, none, D, e, rfl⟩
  · exact ⟨es, n, some u, D, e, rfl⟩
theorem op_in_k : OpR X (compareOp .In) (rInK X.K X.w false) := by
  intro pins s σ H y x u v Q I ry rx h
  obtain ⟨z, d, r, rfl, rfl, g, q⟩ := h
  obtain ⟨es, n, r', D, e, e2⟩ := g.ns
  exact op_in_kd D pins s σ H _ _ u v Q I ry rx ⟨z, r', rfl, rfl, e, by rw [e2]; exact q⟩
theorem op_notIn_k : OpR X (compareOp .NotIn) (rInK X.K X.w true) := by
  intro pins s σ H y x u v Q I ry rx h
  obtain ⟨z, d, r, rfl, rfl, g, q⟩ := h
  obtain ⟨es, n, r', D, e, e2⟩ := g.ns
  exact op_notIn_kd D pins s σ H _ _ u v Q I ry rx ⟨z, r', rfl, rfl, e, by rw [e2]; exact q⟩
def rInS (neg : Bool) : R2 := fun x y H Q => ∃ i j, x = .str i ∧ y = .str j ∧ Q (.bl (if neg then !(!(Builtin.Str.occurrences j i 0 j.length 1).isEmpty) else !(Builtin.Str.occurrences j i 0 j.length 1).isEmpty)) H
theorem op_in_s : OpR X (compareOp .In) (rInS false) := op_in_str
theorem op_notIn_s : OpR X (compareOp .NotIn) (rInS true) := op_notIn_str
def rInG (K : PySem.W.Frag) (w : World) (neg : Bool) : R2 := fun x y H Q => rIn K neg x y H Q ∨ rInS neg x y H Q ∨ rInT neg x y H Q ∨ rInK K w neg x y H Q
theorem op_inG (hu : X.A.units + 1 < cLine) : OpR X (compareOp .In) (rInG X.K X.w false) := op_in_seq.or (op_in_s.or ((op_in_t hu).or op_in_k))
theorem op_notInG (hu : X.A.units + 1 < cLine) : OpR X (compareOp .NotIn) (rInG X.K X.w true) := op_notIn_seq.or (op_notIn_s.or ((op_notIn_t hu).or op_notIn_k))
/-! ### is -/
def rIsG (neg : Bool) : R2 := fun x y H Q => (y = .non ∧ Q (.bl (if neg then !decide (x = .non) else decide (x = .non))) H) ∨ (∃ a b : Bool, x = .bl a ∧ y = .bl b ∧ Q (.bl (if neg then !decide (a = b) else decide (a = b))) H)
theorem op_isG : OpR X (compareOp .Is) (rIsG false) := op_isN.or op_isBl
theorem op_isNotG : OpR X (compareOp .IsNot) (rIsG true) := op_notN.or op_notBl
/-! ### len of anything -/
def rLenD : List V → Hp → VK → Prop := fun xs H Q => ∃ a kvs, xs = [.ref a] ∧ Rd H a (.dK kvs) ∧ Q (.int kvs.length) H
theorem call_lenK : CallR X (.builtin "len") rLenD := by
  intro pins s σ H xs us Q I r h
  obtain ⟨a, kvs, rfl, g, q⟩ := h
  obtain ⟨u, rfl, ru⟩ := vals1 r
  cases ru
  exact d_len I g fun t s' I' => ⟨.int kvs.length, H, I', ⟨t, rfl⟩, q⟩
def rLenG (K : PySem.W.Frag) : List V → Hp → VK → Prop := fun xs H Q => (∃ x n, xs = [x] ∧ LenV K x H n ∧ Q (.int n) H) ∨ rLenD xs H Q
theorem call_lenG : CallR X (.builtin "len") (rLenG X.K) := call_len.or call_lenK
/-! ### what is walked -/
def iOr (a b : TI) : TI := fun σ H R => a σ H R ∨ b σ H R
theorem piOr {tg e : Expr} {a b : TI} (ha : PI X tg e a) (hb : PI X tg e b) : PI X tg e (iOr a b) :=
  ⟨fun pins s σ H R I h => h.elim (ha.run pins s σ H R I) (hb.run pins s σ H R I)⟩
/-- a list, a tuple, a text -/
def iSeq (K : PySem.W.Frag) (te : TE) : TI := iOr (iList K te) (iOr (iTup K te) (iStr te))
theorem pi_seq {tg e : Expr} {te : TE} (h : PE X e te) : PI X tg e (iSeq X.K te) := piOr (pi_list h) (piOr (pi_tup h) (pi_str h))
end

/-! ### subscripts, slices, stores -/
section
variable {X : Cx}
def rGetT : R2 := fun x y H Q => ∃ a v, x = .ref a ∧ DGet H a y (some v) ∧ Q v H
theorem ix_dictT (hu : X.A.units + 1 < cLine) : IxR X rGetT := by
  intro value slice pins s σ H x y v u Q I rx ry h hs
  obtain ⟨a, z, rfl, g, q⟩ := h
  cases rx
  exact tail_any (dict_typeIs I g) PySem.F.slot_dict_getitem.lookup (d_getItem hu I g ry fun w' s3 I3 rw' => ⟨z, H, I3, rw', q⟩) hs
def rGetK (K : PySem.W.Frag) (w : World) : R2 := fun x y H Q => ∃ d z v, x = .ref d ∧ y = .str z ∧ KGet K w d z (some v) ∧ Q v H
theorem ix_dictK : IxR X (rGetK X.K X.w) := by
  intro value slice pins s σ H x y v u Q I rx ry h hs
  obtain ⟨d, z, r, rfl, rfl, ⟨es, n, D, ⟨e0, _⟩ | ⟨u0, v0, e0, e1, r0⟩⟩, q⟩ := h
  · cases e0
  · cases e0
    have ry' := ry
    cases rx
    exact tail_any (kd_type D I) PySem.F.slot_dict_getitem.lookup (op_item_kd D pins s σ H (.ref d) (.str z) (.ref d) u Q I rfl ry' ⟨z, u0, r, rfl, rfl, e1, r0, q⟩) hs
def rIxG (K : PySem.W.Frag) (w : World) : R2 := fun x y H Q => rIx K x y H Q ∨ rGetT x y H Q ∨ rGetK K w x y H Q
theorem ix_any (hu : X.A.units + 1 < cLine) : IxR X (rIxG X.K X.w) := ix_seq.or ((ix_dictT hu).or ix_dictK)
def tIxG (K : PySem.W.Frag) (w : World) (ta tb : TE) : TE := tOp (rIxG K w) ta tb
theorem pe_ixG {a b : Expr} {ta tb : TE} {pos : Pos} (hu : X.A.units + 1 < cLine) (ha : PE X a ta) (hb : PE X b tb) (hs : PlainIx b) : PE X (.Subscript a b pos) (tIxG X.K X.w ta tb) := pe_ix (ix_any hu) ha hb hs
def rSlG (K : PySem.W.Frag) : V → Option Int → Option Int → Hp → VK → Prop := fun x lo hi H Q => (∃ a xs, x = .ref a ∧ SqL K H a xs ∧ New H (.lst (cutV xs lo hi)) fun p H' => Q (.ref p) H') ∨
  (∃ a xs, x = .ref a ∧ SqT K H a xs ∧ (HT.sIx xs.length 0 lo = 0 ∧ HT.sIx xs.length xs.length hi = xs.length → Q (.ref a) H) ∧ (¬ (HT.sIx xs.length 0 lo = 0 ∧ HT.sIx xs.length xs.length hi = xs.length) → New H (.tup (cutV xs lo hi)) fun p H' => Q (.ref p) H')) ∨ rSlS x lo hi H Q
theorem sl_any : SlR X (rSlG X.K) := slr_imp (sl_list.or (sl_tupA.or sl_str)) fun x lo hi H Q h => by
  rcases h with ⟨a, xs, e, h, n⟩ | ⟨a, xs, e, h, n1, n2⟩ | h
  · exact .inl ⟨a, xs, e, h, n.at⟩
  · exact .inr (.inl ⟨a, xs, e, h, n1, fun z => (n2 z).at⟩)
  · exact .inr (.inr h)
def tRevG (K : PySem.W.Frag) (te : TE) : TE := fun σ H Q => te σ H fun x H1 => ∃ a xs, x = .ref a ∧ SqL K H1 a xs ∧ New H1 (.lst xs.reverse) fun p H' => Q (.ref p) H'
theorem pe_revG {e : Expr} {te : TE} {k : Nat} {p1 p2 p3 pos : Pos} (he : PE X e te) : PE X (.Subscript e (.Slice none none (some (.UnaryOp .USub (.Constant (.int 1) k p1) p2)) p3) pos) (tRevG X.K te) :=
  ⟨fun pins s σ H Q I q => (pe_revL (pe_cl he)).run pins s σ H Q I ⟨_, q, fun x H1 ⟨a, xs, e, h, n⟩ => ⟨a, xs, e, h, n.at⟩⟩⟩
def rSetD : TSet := fun o i v H Q => ∃ a H', o = .ref a ∧ DPut H a i v H' ∧ Q H'
theorem set_dict (hu : X.A.units + 1 < cLine) : PSet X rSetD := by
  intro pins s σ H o i v ov iv u Q I ro ri rv h
  obtain ⟨a, H', rfl, g, q⟩ := h
  cases ro
  exact d_setItem hu I g ri rv fun s' I' => ⟨H', I', q⟩
def rSetG : TSet := fun o i v H Q => (∃ p xs k j, o = .ref p ∧ i = .int k ∧ H p = some (.lst xs) ∧ ixN xs.length k = some j ∧ Put H p (.lst (xs.set j v)) Q) ∨
  (∃ a kvs k, o = .ref a ∧ H a = some (.dK kvs) ∧ i = kV k ∧ kvs.length < sizeLine ∧ Put H a (.dK (putK kvs k v)) Q)
theorem set_any (hu : X.A.units + 1 < cLine) : PSet X rSetG := by
  intro pins s σ H o i v ov iv u Q I ro ri rv h
  rcases h with ⟨p, xs, k, j, e1, e2, h1, h2, q⟩ | ⟨a, kvs, k, e1, h1, e2, hl, q⟩
  · exact set_list pins s σ H o i v ov iv u Q I ro ri rv ⟨p, xs, k, j, e1, e2, h1, h2, q.at⟩
  · exact set_dict hu pins s σ H o i v ov iv u Q I ro ri rv ⟨a, _, e1, .inl ⟨kvs, k, h1, e2, hl, rfl⟩, q.at⟩
/-! ### tests by truth -/
def tTru (K : PySem.W.Frag) (ta : TE) : TT := fun σ H Q => ta σ H fun x H' => ∃ k, TruV K x H' k ∧ Q k H'
theorem pt_tru {a : Expr} {ta : TE} (ha : PE X a ta) (he : ∀ whole, isTrue a X.env whole = (do let v ← whole; standAt a.pos; holding [v] (truthy v))) : PT X a (tTru X.K ta) := pt_truth ha he
/-! ### builtins -/
abbrev rAbsG : List V → Hp → VK → Prop := fun xs H Q => ∃ i, xs = [.int i] ∧ Q (.int (if i < 0 then -i else i)) H
abbrev rMax2 : List V → Hp → VK → Prop := fun xs H Q => ∃ i j, xs = [.int i, .int j] ∧ Q (.int (if j > i then j else i)) H
abbrev rMin2 : List V → Hp → VK → Prop := fun xs H Q => ∃ i j, xs = [.int i, .int j] ∧ Q (.int (if j < i then j else i)) H
def rIntS : List V → Hp → VK → Prop := fun xs H Q => ∃ a n, xs = [.str a] ∧ PySem.intText? a = some n ∧ a.length ≤ 640 ∧ Q (.int n) H
def rIntG : List V → Hp → VK → Prop := fun xs H Q => (∃ i, xs = [.int i] ∧ Q (.int i) H) ∨ ∃ k, xs = [.bl k] ∧ Q (.int (if k then 1 else 0)) H
theorem call_intG : CallR X (.type "int") rIntG := call_int1
abbrev rBool1 : List V → Hp → VK → Prop := fun xs H Q => (∃ i, xs = [.int i] ∧ Q (.bl (i != 0)) H) ∨ ∃ k, xs = [.bl k] ∧ Q (.bl k) H
abbrev rStrG : List V → Hp → VK → Prop := fun xs H Q => ∃ i, xs = [.int i] ∧ i.natAbs.log2 < 1920 ∧ Q (.str (toString i)) H
def rListG (K : PySem.W.Frag) : List V → Hp → VK → Prop := fun xs H Q => (∃ p ys, xs = [.ref p] ∧ (SqL K H p ys ∨ SqT K H p ys) ∧ New H (.lst ys) fun l H' => Q (.ref l) H') ∨
  ∃ p kvs, xs = [.ref p] ∧ H p = some (.dK kvs) ∧ New H (.lst (kvs.map fun kv => kV kv.1)) fun q H' => Q (.ref q) H'
theorem call_listG (hc : X.calm = true) : CallR X (.type "list") (rListG X.K) := callr_imp (CallR.or call_list_of (call_list_dK hc)) fun xs H Q h => by
  rcases h with ⟨p, ys, e, h, n⟩ | ⟨p, kvs, e, h, n⟩
  · exact .inl ⟨p, ys, e, h, n.at⟩
  · exact .inr ⟨p, kvs, e, h, n.at⟩
def rTupleG (K : PySem.W.Frag) : List V → Hp → VK → Prop := fun xs H Q => ∃ p ys, xs = [.ref p] ∧ ((SqL K H p ys ∧ New H (.tup ys) fun l H' => Q (.ref l) H') ∨ (SqT K H p ys ∧ Q (.ref p) H))
theorem call_tupleG : CallR X (.type "tuple") (rTupleG X.K) := callr_imp call_tuple_of fun xs H Q ⟨p, ys, e, h⟩ => ⟨p, ys, e, h.imp (fun ⟨a, n⟩ => ⟨a, n.at⟩) id⟩
/-! ### methods of lists and texts -/
def rAppendG : V → List V → Hp → VK → Prop := fun x vs H Q => ∃ l xs y, x = .ref l ∧ vs = [y] ∧ H l = some (.lst xs) ∧ xs.length < sizeLine ∧ Put H l (.lst (xs ++ [y])) fun H' => Q .non H'
theorem mt_appendG : MtR X "list.append" rAppendG := mtr_imp mt_append fun x xs H Q ⟨l, ys, y, e1, e2, h, hl, q⟩ => ⟨l, ys, y, e1, e2, h, hl, q.at⟩
def rExtendG : V → List V → Hp → VK → Prop := fun x vs H Q => ∃ l b xs zs, x = .ref l ∧ vs = [.ref b] ∧ H l = some (.lst xs) ∧ H b = some (.lst zs) ∧ xs.length + zs.length ≤ sizeLine ∧ Put H l (.lst (xs ++ zs)) fun H' => Q .non H'
theorem mt_extendG : MtR X "list.extend" rExtendG := mtr_imp mt_extend fun x xs H Q ⟨l, b, ys, zs, e1, e2, h, h2, hl, q⟩ => ⟨l, b, ys, zs, e1, e2, h, h2, hl, q.at⟩
def rPopG : V → List V → Hp → VK → Prop := fun x vs H Q => ∃ l xs y, x = .ref l ∧ vs = [] ∧ H l = some (.lst xs) ∧ xs[xs.length - 1]? = some y ∧ Put H l (.lst xs.dropLast) fun H' => Q y H'
theorem mt_popG : MtR X "list.pop" rPopG := mtr_imp mt_pop fun x xs H Q ⟨l, ys, y, e1, e2, h, hl, q⟩ => ⟨l, ys, y, e1, e2, h, hl, q.at⟩
abbrev rIsiG := rIsi
theorem call_isiG : CallR X (.builtin "isinstance") (rIsiG X.K) := call_isi
def rSplitG : V → List V → Hp → VK → Prop := fun x xs H Q => ∃ a b, x = .str a ∧ xs = [.str b] ∧ (b.length == 0) = false ∧ a.length + 2 ≤ sizeLine ∧ New H (.lst ((Txt.split a b).map V.str)) fun p H' => Q (.ref p) H'
abbrev rJoinG (K : PySem.W.Frag) : V → List V → Hp → VK → Prop := fun x xs H Q => ∃ a p, ∃ ys : List Str, x = .str a ∧ xs = [.ref p] ∧ (SqL K H p (ys.map V.str) ∨ SqT K H p (ys.map V.str)) ∧
      (ys.map (·.length)).sum + ys.length * a.length ≤ 16777216 ∧ Q (.str (Txt.join a ys)) H
theorem pe_splitG {o e : Expr} {to te : TE} {apos pos : Pos} (ho : PE X o to) (he : PE X e te) (hs : starEach [e] X.env = [(false, eval e X.env)] := by rfl) (hbase : attributeBase o "split" X.env (eval o X.env) = eval o X.env := by rfl) (hline : (apos.endLine == pos.line) = true := by rfl) :
    PE X (.Call (.Attribute o "split" apos) [e] [] pos) (tM1 rSplitG to te) :=
  pe_m1 F.slot_str_split F.type_str_split (mtr_imp mt_split fun x xs H Q ⟨a, b, e1, e2, h1, h2, n⟩ => ⟨a, b, e1, e2, h1, h2, n.at⟩) ho he hs hbase hline
/-- a module's constant by its value -/
theorem pe_gc {x : Str} {v : V} {pos : Pos} (hg : Gl X x) (h : ∃ u, X.mg x = some u ∧ RelV v u) (hd : (x == ("__debug__" : Str)) = false := by decide) : PE X (.Name x pos) (tC v) := by
  obtain ⟨u, h1, h2⟩ := h
  exact pe_glob hg h1 h2 hd
end
/-! ### calls of the text's own defs -/
/-- a def that may be called by its name (no exception leaves it) -/
structure Cal (P : Program) (w : World) (K : PySem.W.Frag) (mg : Str → Option Value) (base : Heap) (k : Nat) (x : Str) (sp : Sp) : Prop where
  ex : ∃ (f : Addr) (fd : FuncData) (ps : List Str), FnOk P w K mg base CX0 k f fd ps sp ∧ mg x = some (.ref f) ∧ PySem.W.keepIn K (.ref f) = true ∧ Binds K fd ps []
section
variable {P : Program} {w : World} {K : PySem.W.Frag} {mg : Str → Option Value} {base : Heap}
theorem Cal.mono {j k : Nat} {x : Str} {sp : Sp} (c : Cal P w K mg base j x sp) (h : j ≤ k) : Cal P w K mg base k x sp := by
  obtain ⟨f, fd, ps, F, a, b, d⟩ := c.ex
  exact ⟨f, fd, ps, F.mono h, a, b, d⟩
theorem Cal.imp {k : Nat} {x : Str} {sp sp' : Sp} (c : Cal P w K mg base k x sp) (h : ∀ vs H Q E, sp' vs H Q E → sp vs H Q E) : Cal P w K mg base k x sp' := by
  obtain ⟨f, fd, ps, F, a, b, d⟩ := c.ex
  exact ⟨f, fd, ps, F.imp h, a, b, d⟩
theorem cal_mk {x : Str} {params : Arguments} {body : List Stmt} {scope : Scope} {f : Addr} {fd : FuncData} {N ps : List Str} {k : Nat} {sp : Sp} (F : FunD K x x params body scope [] [] f fd) (hm : mg x = some (.ref f)) (S : FnScope N ps scope)
    (b : Binds K fd ps []) (len : ∀ vs H Q E, sp vs H Q E → vs.length = ps.length)
    (hbody : ∀ (cdv : Value) (A : Around) (outer : List Env) (s : Shared) (H : Hp) (vs : List V) (Q : VK) (E : XK), Room k (A.deeper (envOfC x scope s.heap.objs.size f cdv)) → sp vs H Q E →
      ∃ t, PSs (cxOf CX0 P w K mg base N x scope f cdv A outer s H E) body t ∧ t { nx := fun _ H' => Q .non H', rt := Q } (start N vs) H) : Cal P w K mg base (k + 1) x sp :=
  ⟨f, fd, ps, F.ok S len hbody, hm, F.kp, b⟩
end
section
variable {X : Cx} {k : Nat} {x : Str} {sp : Sp} {p pos : Pos} {e : Expr} {es : List Expr} {t : TA}
theorem pe_cal (c : Cal X.prog X.w X.K X.mg X.base k x sp) (hr : Room k X.A) (hg : Gl X x) (ha : PA X (e :: es) t)
    (hdb : (x == ("__debug__" : Str)) = false := by decide) (he : starEach (e :: es) X.env = (false, eval e X.env) :: starEach es X.env := by rfl) (hpl : (backTo pos (starEach es X.env)).any (·.1) = false := by rfl) :
    PE X (.Call (.Name x p) (e :: es) [] pos) (tCall sp [] E0 t) := by
  obtain ⟨f, fd, ps, F, a, b, d⟩ := c.ex
  exact pe_call F hr hg a b d .nil pass0 ha hdb he hpl
theorem pe_cal0 (c : Cal X.prog X.w X.K X.mg X.base k x sp) (hr : Room k X.A) (hg : Gl X x)
    (hdb : (x == ("__debug__" : Str)) = false := by decide) : PE X (.Call (.Name x p) [] [] pos) (tCall sp [] E0 tNil) := by
  obtain ⟨f, fd, ps, F, a, b, d⟩ := c.ex
  exact pe_call0 F hr hg a b d .nil pass0 hdb
end
/-- the slots at the entry: m of them -/
def startN (m : Nat) (vs : List V) : L2.St := vs.map some ++ List.replicate (m - vs.length) none
/-- what of a def is shown without the text: its reading, run at its parameters' values, keeps its promise -/
structure PureOk (n : Nat) (sp : Sp) (t : TS) (m : Nat) : Prop where
  len : ∀ vs H Q E, sp vs H Q E → vs.length = n
  run : ∀ vs H Q E, sp vs H Q E → t { nx := fun _ H' => Q .non H', rt := Q } (startN m vs) H
/-- a written table with text keys -/
def KTab (K : PySem.W.Frag) (w : World) (d : Addr) (kvs : List (Str × V)) : Prop := ∀ z : Str, KGet K w d z ((kvs.find? fun q => decide (q.1 = z)).map (·.2))

/-! ### readings, step by step -/
section
variable {K : PySem.W.Frag} {w : World} {D : Ends} {σ σ' : L2.St} {H : Hp} {Q : VK} {v x y : V} {i j : Int} {n : Nat} {ta tb tc te : TE} {t u : TS} {p a b : Addr} {xs ys : List V} {s z : Str}
theorem g_seq (h : t { D with nx := u D } σ H) : tSeq t u D σ H := h
theorem g_next (h : D.nx σ H) : tNext D σ H := h
theorem g_ret (h : te σ H D.rt) : tRet te D σ H := h
theorem g_drop (h : te σ H fun _ H1 => D.nx σ H1) : tDrop te D σ H := h
theorem g_ifs {c : TT} (h : c σ H fun b H1 => if b = true then t D σ H1 else u D σ H1) : tIfS c t u D σ H := h
theorem g_asg {g : TG} (h : te σ H fun x H1 => g x σ H1 D.nx) : tAsg te g D σ H := h
theorem g_par {k l : Nat} {ta : TA} (h : ta σ H fun vs H1 => ∃ v w, vs = [v, w] ∧ D.nx ((σ.set k (some v)).set l (some w)) H1) : tPar k l ta D σ H := h
theorem g_name {Q : L2.St → Hp → Prop} {k : Nat} (h : σ.set k (some v) = σ') (q : Q σ' H) : gName k v σ H Q := by subst h; exact q
theorem g_sub {to ti : TE} {ts : TSet} {Q : L2.St → Hp → Prop} (h : to σ H fun o H1 => ti σ H1 fun i H2 => ts o i v H2 fun H3 => Q σ H3) : gSub to ti ts v σ H Q := h
theorem g_var {k : Nat} (h : σ[k]? = some (some v)) (q : Q v H) : tVar k σ H Q := ⟨v, h, q⟩
theorem g_c (q : Q v H) : tC v σ H Q := q
theorem g_op {r : R2} (h : ta σ H fun x H1 => tb σ H1 fun y H2 => r x y H2 Q) : tOp r ta tb σ H Q := h
theorem g_ixop (h : ta σ H fun x H1 => tb σ H1 fun y H2 => rIxG K w x y H2 Q) : tIxG K w ta tb σ H Q := h
theorem g_un {r : V → Hp → VK → Prop} (h : ta σ H fun x H1 => r x H1 Q) : tUn r ta σ H Q := h
theorem g_neg (q : Q (.int (-i)) H) : rU (fun i => .int (-i)) (.int i) H Q := ⟨i, rfl, q⟩
theorem g_test {Q : Bool → Hp → Prop} (h : te σ H fun x H' => ∃ k, x = .bl k ∧ Q k H') : tTest te σ H Q := h
theorem g_not {c : TT} {Q : Bool → Hp → Prop} (h : c σ H fun c H1 => Q (!c) H1) : tNot c σ H Q := h
theorem g_and {c d : TT} {Q : Bool → Hp → Prop} (h : c σ H fun c H1 => if c = true then d σ H1 Q else Q false H1) : tAnd c d σ H Q := h
theorem g_or {c d : TT} {Q : Bool → Hp → Prop} (h : c σ H fun c H1 => if c = true then Q true H1 else d σ H1 Q) : tOr c d σ H Q := h
theorem g_tru {Q : Bool → Hp → Prop} (h : ta σ H fun x H' => ∃ k, TruV K x H' k ∧ Q k H') : tTru K ta σ H Q := h
theorem g_trubl {R : Bool → Prop} {k : Bool} (q : R k) : ∃ k', TruV K (.bl k) H k' ∧ R k' := ⟨k, rfl, q⟩
theorem g_truint {R : Bool → Prop} (q : R (i != 0)) : ∃ k', TruV K (.int i) H k' ∧ R k' := ⟨_, rfl, q⟩
theorem g_trul {R : Bool → Prop} (h : SqL K H a xs) (q : R (!xs.isEmpty)) : ∃ k', TruV K (.ref a) H k' ∧ R k' := ⟨_, .inl ⟨xs, h, rfl⟩, q⟩
theorem g_bl {R : Bool → Prop} {k : Bool} (q : R k) : ∃ k', V.bl k = .bl k' ∧ R k' := ⟨k, rfl, q⟩
theorem g_ifx {c : TT} (h : c σ H fun c H1 => if c = true then ta σ H1 Q else tb σ H1 Q) : tIf c ta tb σ H Q := h
theorem g_andT (h : ta σ H fun x H1 => ∃ k, TruV K x H1 k ∧ if k = true then tb σ H1 Q else Q x H1) : tAndT K ta tb σ H Q := h
theorem g_orT (h : ta σ H fun x H1 => ∃ k, TruV K x H1 k ∧ if k = true then Q x H1 else tb σ H1 Q) : tOrT K ta tb σ H Q := h
theorem g_notT (h : ta σ H fun x H1 => ∃ k, TruV K x H1 k ∧ Q (.bl (!k)) H1) : tNotT K ta σ H Q := h
theorem g_nil {Q : List V → Hp → Prop} (q : Q [] H) : tNil σ H Q := q
theorem g_cons {Q : List V → Hp → Prop} {tr : TA} (h : te σ H fun x H1 => tr σ H1 fun xs H2 => Q (x :: xs) H2) : tCons te tr σ H Q := h
theorem g_call {sp : Sp} {E : XK} {t : TA} (h : t σ H fun vs H1 => sp (vs ++ []) H1 Q E) : tCall sp [] E t σ H Q := h
theorem g_cb {r : List V → Hp → VK → Prop} {t : TA} (h : t σ H fun vs H1 => r vs H1 Q) : tCB r t σ H Q := h
theorem g_tup {t : TA} (h : t σ H fun xs H1 => xs.length ≤ sizeLine ∧ New H1 (.tup xs) fun p H2 => Q (.ref p) H2) : tTupN t σ H Q := h
theorem g_lst {t : TA} (h : t σ H fun xs H1 => xs.length ≤ sizeLine ∧ New H1 (.lst xs) fun p H2 => Q (.ref p) H2) : tLstN t σ H Q := h
theorem g_len {R : Prop} (hl : xs.length ≤ sizeLine) (q : R) : xs.length ≤ sizeLine ∧ R := ⟨hl, q⟩
theorem g_dnew (h : New H (.dK []) fun p H2 => Q (.ref p) H2) : tDNewKN σ H Q := h
theorem g_disp {trs : List (TE × TE)} (h : New H (.dK []) fun p H1 => tPairs trs σ H1 fun ps H2 => H2 p = some (.dK []) ∧ ∃ kvs : List (Key × V), ps = kvs.map (fun kv => (kV kv.1, kv.2)) ∧ kvs.length ≤ 15 ∧ Put H2 p (.dK (mergeK [] kvs)) fun H' => Q (.ref p) H') : tDispN trs σ H Q := h
theorem g_pnil {Q : List (V × V) → Hp → Prop} (q : Q [] H) : tPairs [] σ H Q := q
theorem g_pcons {Q : List (V × V) → Hp → Prop} {r : List (TE × TE)} (h : ta σ H fun x H1 => tb σ H1 fun y H2 => tPairs r σ H2 fun ps H3 => Q ((x, y) :: ps) H3) : tPairs ((ta, tb) :: r) σ H Q := h
theorem g_pairs {R : List (Key × V) → Prop} {ps : List (V × V)} (kvs : List (Key × V)) (hd : H p = some (.dK [])) (e : ps = kvs.map (fun kv => (kV kv.1, kv.2))) (hl : kvs.length ≤ 15) (q : R kvs) : H p = some (.dK []) ∧ ∃ kvs : List (Key × V), ps = kvs.map (fun kv => (kV kv.1, kv.2)) ∧ kvs.length ≤ 15 ∧ R kvs := ⟨hd, kvs, e, hl, q⟩
theorem g_get2 (h : ta σ H fun x H1 => ∃ a, x = .ref a ∧ IsD H1 a ∧ tb σ H1 fun y H2 => tc σ H2 fun z H3 => ∃ o, DGet H3 a y o ∧ Q (o.getD z) H3) : tDGet2 ta tb tc σ H Q := h
theorem g_isd {R : Addr → Prop} {kvs : List (Key × V)} (h : H p = some (.dK kvs)) (q : R p) : ∃ a, V.ref p = .ref a ∧ IsD H a ∧ R a := ⟨p, rfl, .inl ⟨kvs, .of h⟩, q⟩
theorem g_dget {R : Option V → Prop} {kvs : List (Key × V)} {k : Key} (h : H p = some (.dK kvs)) (e : x = kV k) (q : R (valV kvs k)) : ∃ o, DGet H p x o ∧ R o := ⟨_, .inl ⟨kvs, k, .of h, e, rfl⟩, q⟩
theorem g_bm {T : String} {r : V → List V → Hp → VK → Prop} {to : TE} {t : TA} (h : to σ H fun x H1 => tyV K T x H1 ∧ t σ H1 fun xs H2 => r x xs H2 Q) : tBM K T r to t σ H Q := h
theorem g_bm0 {T : String} {r : V → List V → Hp → VK → Prop} {to : TE} (h : to σ H fun x H1 => tyV K T x H1 ∧ r x [] H1 Q) : tBM0 K T r to σ H Q := h
theorem g_tyl {R : Prop} (h : SqL K H a xs) (q : R) : tyV K "list" (.ref a) H ∧ R := ⟨.inl ⟨rfl, xs, h⟩, q⟩
theorem g_m1 {r : V → List V → Hp → VK → Prop} {to te : TE} (h : to σ H fun x H1 => (∃ a, x = .str a) ∧ te σ H1 fun y H2 => r x [y] H2 Q) : tM1 r to te σ H Q := h
theorem g_isstr {R : Prop} (q : R) : (∃ a, V.str s = .str a) ∧ R := ⟨⟨s, rfl⟩, q⟩
/-- the operators by kinds -/
theorem g_addI (q : Q (.int (i + j)) H) : rAddG K (.int i) (.int j) H Q := .inl ⟨i, j, rfl, rfl, q⟩
theorem g_addS (hl : s.length + z.length ≤ sizeLine) (q : Q (.str (s ++ z)) H) : rAddG K (.str s) (.str z) H Q := .inr (.inl ⟨s, z, rfl, rfl, hl, q⟩)
theorem g_addL (h1 : H a = some (.lst xs)) (h2 : H b = some (.lst ys)) (hl : xs.length + ys.length ≤ sizeLine) (q : New H (.lst (xs ++ ys)) fun p H' => Q (.ref p) H') : rAddG K (.ref a) (.ref b) H Q := .inr (.inr (.inl ⟨a, b, xs, ys, rfl, rfl, h1, h2, hl, q⟩))
theorem g_addT (h1 : SqT K H a xs) (h2 : SqT K H b ys) (hl : xs.length + ys.length ≤ sizeLine) (n1 : xs ≠ []) (n2 : ys ≠ []) (q : New H (.tup (xs ++ ys)) fun p H' => Q (.ref p) H') : rAddG K (.ref a) (.ref b) H Q :=
  .inr (.inr (.inr ⟨a, b, xs, ys, rfl, rfl, h1, h2, hl, fun e => absurd e n1, fun _ e => absurd e n2, fun _ _ => q⟩))
theorem g_subI (q : Q (.int (i - j)) H) : rSubG (.int i) (.int j) H Q := ⟨i, j, rfl, rfl, q⟩
theorem g_mulI (hc : CMul i j) (q : Q (.int (i * j)) H) : rMulG (.int i) (.int j) H Q := .inl ⟨i, j, rfl, rfl, hc, q⟩
theorem g_divI (hc : CDivW i j) (q : Q (.int (i / j)) H) : rDivG (.int i) (.int j) H Q := ⟨i, j, rfl, rfl, hc, q⟩
theorem g_modI (hc : 0 < j) (q : Q (.int (i % j)) H) : rModG (.int i) (.int j) H Q := ⟨i, j, rfl, rfl, hc, q⟩
theorem g_powI (hc : CPow i j) (q : Q (.int (i ^ j.toNat)) H) : rPowG (.int i) (.int j) H Q := ⟨i, j, rfl, rfl, hc, q⟩
theorem g_ltI (q : Q (.bl (decide (i < j))) H) : rLtG (.int i) (.int j) H Q := ⟨i, j, rfl, rfl, q⟩
theorem g_leI (q : Q (.bl (decide (i ≤ j))) H) : rLeG (.int i) (.int j) H Q := ⟨i, j, rfl, rfl, q⟩
theorem g_gtI (q : Q (.bl (decide (j < i))) H) : rGtG (.int i) (.int j) H Q := ⟨i, j, rfl, rfl, q⟩
theorem g_geI (q : Q (.bl (decide (j ≤ i))) H) : rGeG (.int i) (.int j) H Q := ⟨i, j, rfl, rfl, q⟩
theorem g_eqI (q : Q (.bl (decide (i = j))) H) : rEqG K (.int i) (.int j) H Q := .inl ⟨rfl, by rw [show decide (V.int i = V.int j) = decide (i = j) from by simp]; exact q⟩
theorem g_eqS (q : Q (.bl (decide (s = z))) H) : rEqG K (.str s) (.str z) H Q := .inl ⟨rfl, by rw [show decide (V.str s = V.str z) = decide (s = z) from by simp]; exact q⟩
theorem g_neI (q : Q (.bl (!decide (i = j))) H) : rNeG K (.int i) (.int j) H Q := .inl ⟨rfl, by rw [show decide (V.int i = V.int j) = decide (i = j) from by simp]; exact q⟩
theorem g_neS (q : Q (.bl (!decide (s = z))) H) : rNeG K (.str s) (.str z) H Q := .inl ⟨rfl, by rw [show decide (V.str s = V.str z) = decide (s = z) from by simp]; exact q⟩
theorem g_eqD {d e : PyData} (h1 : Dp K H x d) (h2 : Dp K H y e) (h3 : SeqAt.shaped d = true) (h4 : SeqAt.shaped e = true) (q : Q (.bl (PyData.eqv d e)) H) : rEqG K x y H Q := .inr (.inl ⟨d, e, h1, h2, h3, h4, q⟩)
theorem g_neD {d e : PyData} (h1 : Dp K H x d) (h2 : Dp K H y e) (h3 : SeqAt.shaped d = true) (h4 : SeqAt.shaped e = true) (q : Q (.bl (!PyData.eqv d e)) H) : rNeG K x y H Q := .inr (.inl ⟨d, e, h1, h2, h3, h4, q⟩)
theorem g_ixL (h : SqL K H p xs) (e : atI xs i = some v) (q : Q v H) : rIxG K w (.ref p) (.int i) H Q := .inl (.inl ⟨p, xs, i, v, rfl, rfl, h, e, q⟩)
theorem g_ixT (h : SqT K H p xs) (e : atI xs i = some v) (q : Q v H) : rIxG K w (.ref p) (.int i) H Q := .inl (.inr (.inl ⟨p, xs, i, v, rfl, rfl, h, e, q⟩))
theorem g_ixS {c : Nat} (hl : s.length ≤ sizeLine) (e : atI s.cps.toList i = some c) (q : Q (.str ⟨#[c]⟩) H) : rIxG K w (.str s) (.int i) H Q := .inl (.inr (.inr ⟨s, i, c, rfl, rfl, hl, e, q⟩))
theorem g_ixD {kvs : List (Key × V)} {k : Key} (h : H p = some (.dK kvs)) (hx : x = kV k) (e : valV kvs k = some v) (q : Q v H) : rIxG K w (.ref p) x H Q := .inr (.inl ⟨p, v, rfl, .inl ⟨kvs, k, .of h, hx, e.symm⟩, q⟩)
theorem g_setL {R : Hp → Prop} {k : Nat} (h : H p = some (.lst xs)) (e : ixN xs.length i = some k) (q : Put H p (.lst (xs.set k v)) R) : rSetG (.ref p) (.int i) v H R := .inl ⟨p, xs, i, k, rfl, rfl, h, e, q⟩
theorem g_setK {R : Hp → Prop} {kvs : List (Key × V)} {k : Key} (h : H p = some (.dK kvs)) (e : x = kV k) (hl : kvs.length < sizeLine) (q : Put H p (.dK (putK kvs k v)) R) : rSetG (.ref p) x v H R := .inr ⟨p, kvs, k, rfl, h, e, hl, q⟩
theorem g_lenL (h : SqL K H p xs) (q : Q (.int xs.length) H) : rLenG K [.ref p] H Q := .inl ⟨.ref p, xs.length, rfl, .inl ⟨xs, h, rfl⟩, q⟩
theorem g_lenT (h : SqT K H p xs) (q : Q (.int xs.length) H) : rLenG K [.ref p] H Q := .inl ⟨.ref p, xs.length, rfl, .inr ⟨xs, h, rfl⟩, q⟩
theorem g_lenS (h : s.length ≤ sizeLine) (q : Q (.int s.length) H) : rLenG K [.str s] H Q := .inl ⟨.str s, s.length, rfl, ⟨h, rfl⟩, q⟩
theorem g_abs (q : Q (.int i.natAbs) H) : rAbsG [.int i] H Q := ⟨i, rfl, by rw [show (if i < 0 then -i else i) = (i.natAbs : Int) from by split <;> omega]; exact q⟩
theorem g_max2 (q : Q (.int (max i j)) H) : rMax2 [.int i, .int j] H Q := ⟨i, j, rfl, by rw [show (if j > i then j else i) = max i j from by split <;> omega]; exact q⟩
theorem g_min2 (q : Q (.int (min i j)) H) : rMin2 [.int i, .int j] H Q := ⟨i, j, rfl, by rw [show (if j < i then j else i) = min i j from by split <;> omega]; exact q⟩
theorem g_intI (q : Q (.int i) H) : rIntG [.int i] H Q := .inl ⟨i, rfl, q⟩
theorem g_intB {k : Bool} (q : Q (.int (if k then 1 else 0)) H) : rIntG [.bl k] H Q := .inr ⟨k, rfl, q⟩
theorem g_listL (h : SqL K H p xs) (q : New H (.lst xs) fun l H' => Q (.ref l) H') : rListG K [.ref p] H Q := .inl ⟨p, xs, rfl, .inl h, q⟩
theorem g_listT (h : SqT K H p xs) (q : New H (.lst xs) fun l H' => Q (.ref l) H') : rListG K [.ref p] H Q := .inl ⟨p, xs, rfl, .inr h, q⟩
theorem g_tupleL (h : SqL K H p xs) (q : New H (.tup xs) fun l H' => Q (.ref l) H') : rTupleG K [.ref p] H Q := ⟨p, xs, rfl, .inl ⟨h, q⟩⟩
theorem g_tupleT (h : SqT K H p xs) (q : Q (.ref p) H) : rTupleG K [.ref p] H Q := ⟨p, xs, rfl, .inr ⟨h, q⟩⟩
theorem g_append (h : H a = some (.lst xs)) (hl : xs.length < sizeLine) (q : Put H a (.lst (xs ++ [v])) fun H' => Q .non H') : rAppendG (.ref a) [v] H Q := ⟨a, xs, v, rfl, rfl, h, hl, q⟩
theorem g_extend (h : H a = some (.lst xs)) (h2 : H b = some (.lst ys)) (hl : xs.length + ys.length ≤ sizeLine) (q : Put H a (.lst (xs ++ ys)) fun H' => Q .non H') : rExtendG (.ref a) [.ref b] H Q := ⟨a, b, xs, ys, rfl, rfl, h, h2, hl, q⟩
theorem g_pop (h : H a = some (.lst (xs ++ [v]))) (q : Put H a (.lst xs) fun H' => Q v H') : rPopG (.ref a) [] H Q := ⟨a, xs ++ [v], v, rfl, rfl, h, by simp, by simpa using q⟩
/-- a common rest of several ways -/
structure Rest (B : Prop) : Prop where
  out : B
theorem g_cut {A B : Prop} (f : Rest B → A) (b : B) : A := f ⟨b⟩
/-- the slices -/
theorem g_sl {r : V → Option Int → Option Int → Hp → VK → Prop} {tl th : TO} (h : te σ H fun x H1 => tl σ H1 fun l H2 => th σ H2 fun u H3 => r x l u H3 Q) : tSl r te tl th σ H Q := h
theorem g_nopart {Q : Option Int → Hp → Prop} (q : Q none H) : tNoPart σ H Q := q
theorem g_part {Q : Option Int → Hp → Prop} (h : te σ H fun x H1 => ∃ i, x = .int i ∧ Q (some i) H1) : tPart te σ H Q := h
theorem g_ispart {R : Int → Prop} (q : R i) : ∃ i', V.int i = .int i' ∧ R i' := ⟨i, rfl, q⟩
theorem g_slL {lo hi : Option Int} (h : SqL K H p xs) (q : New H (.lst (cutV xs lo hi)) fun l H' => Q (.ref l) H') : rSlG K (.ref p) lo hi H Q := .inl ⟨p, xs, rfl, h, q⟩
theorem g_slT {lo hi : Option Int} (h : SqT K H p xs) (hw : ¬ (HT.sIx xs.length 0 lo = 0 ∧ HT.sIx xs.length xs.length hi = xs.length)) (q : New H (.tup (cutV xs lo hi)) fun l H' => Q (.ref l) H') : rSlG K (.ref p) lo hi H Q :=
  .inr (.inl ⟨p, xs, rfl, h, fun e => absurd e hw, fun _ => q⟩)
theorem g_slS {lo hi : Option Int} (hl : s.length ≤ sizeLine) (q : Q (.str (cutS s lo hi)) H) : rSlG K (.str s) lo hi H Q := .inr (.inr ⟨s, rfl, hl, q⟩)
theorem g_rev (h : ta σ H fun x H1 => ∃ a xs, x = .ref a ∧ SqL K H1 a xs ∧ New H1 (.lst xs.reverse) fun p H' => Q (.ref p) H') : tRevG K ta σ H Q := h
theorem g_revL {R : List V → Prop} (h : SqL K H a xs) (q : R xs) : ∃ a' xs, V.ref a = .ref a' ∧ SqL K H a' xs ∧ R xs := ⟨a, xs, rfl, h, q⟩
/-- tests -/
theorem g_T {A B : Prop} {b : Bool} (hb : b = true) (h : A) : if b = true then A else B := by rw [if_pos hb]; exact h
theorem g_F {A B : Prop} {b : Bool} (hb : b = false) (h : B) : if b = true then A else B := by rw [if_neg (by rw [hb]; decide)]; exact h
theorem g_ite {A B : Prop} {b : Bool} (h1 : b = true → A) (h2 : b = false → B) : if b = true then A else B := by
  cases b
  · exact h2 rfl
  · exact h1 rfl
end

section
variable {K : PySem.W.Frag} {w : World} {H : Hp} {v : V} {i j : Int} {p a b : Addr} {xs ys : List V} {Q : VK}
theorem Chg.refl : Chg p H H := fun _ _ _ e => e
theorem Chg.trans {H1 H2 : Hp} (h : Chg p H H1) (h' : Chg p H1 H2) : Chg p H H2 := fun b o n e => h' b o n (h b o n e)
theorem Chg.same {H1 : Hp} (h : Same H H1) : Chg p H H1 := fun b o _ e => h b o e
/-- changes at a new object are none of the old ones -/
theorem Same.chg {H1 H2 : Hp} (h : Same H H1) (hp : H p = none) (c : Chg p H1 H2) : Same H H2 := fun b o e => c b o (ne_of_none e hp) (h b o e)
theorem atI_of {α : Type} {xs : List α} {i : Int} {v : α} (h0 : 0 ≤ i) (h : xs[i.toNat]? = some v) : atI xs i = some v := by
  have := atI_nat h
  rwa [Int.toNat_of_nonneg h0] at this
theorem atI_in {α : Type} {xs : List α} {i : Int} (h0 : 0 ≤ i) (h1 : i < xs.length) : ∃ v, atI xs i = some v ∧ v ∈ xs ∧ xs[i.toNat]? = some v := by
  have h2 : i.toNat < xs.length := by omega
  exact ⟨xs[i.toNat], atI_of h0 (List.getElem?_eq_getElem h2), List.getElem_mem h2, List.getElem?_eq_getElem h2⟩
end
/-! ### loops and comprehensions, by what holds at their turns -/
section
variable {K : PySem.W.Frag} {w : World} {H : Hp} {Q : VK} {p : Addr} {ss : List Str} {k : Str}
theorem inV_str : ∀ ss : List Str, inV (.str k) (ss.map V.str) = decide (k ∈ ss)
  | [] => by simp [inV]
  | s :: ss => by
    have ih := inV_str ss
    unfold inV at ih ⊢
    rw [List.map_cons, List.any_cons, ih]
    show (s == k || decide (k ∈ ss)) = _
    by_cases e : s = k
    · subst e; simp
    · have e' : ¬ k = s := fun z => e z.symm
      rw [show (s == k) = false from by simp [e]]
      simp [e']
theorem flat_strs : ∀ ss : List Str, (ss.map V.str).all flatV = true
  | [] => rfl
  | s :: ss => by rw [List.map_cons, List.all_cons, flat_strs ss]; rfl
theorem g_inT (h : SqT K H p (ss.map V.str)) (q : Q (.bl (decide (k ∈ ss))) H) : rInG K w false (.str k) (.ref p) H Q :=
  .inl ⟨p, ss.map V.str, rfl, .inr h, rfl, flat_strs ss, by rw [inV_str]; exact q⟩
theorem g_notInT (h : SqT K H p (ss.map V.str)) (q : Q (.bl (!decide (k ∈ ss))) H) : rInG K w true (.str k) (.ref p) H Q :=
  .inl ⟨p, ss.map V.str, rfl, .inr h, rfl, flat_strs ss, by rw [inV_str]; exact q⟩
theorem g_inL (h : SqL K H p (ss.map V.str)) (q : Q (.bl (decide (k ∈ ss))) H) : rInG K w false (.str k) (.ref p) H Q :=
  .inl ⟨p, ss.map V.str, rfl, .inl h, rfl, flat_strs ss, by rw [inV_str]; exact q⟩
theorem g_notInL (h : SqL K H p (ss.map V.str)) (q : Q (.bl (!decide (k ∈ ss))) H) : rInG K w true (.str k) (.ref p) H Q :=
  .inl ⟨p, ss.map V.str, rfl, .inl h, rfl, flat_strs ss, by rw [inV_str]; exact q⟩
theorem dp_ints : ∀ ns : List Int, DpAll K H (ns.map V.int) (ns.map PyData.int)
  | [] => .nil
  | n :: ns => .cons (.int n) (dp_ints ns)
theorem shaped_ints (ns : List Int) : SeqAt.shaped (.list (ns.map PyData.int)) = true := by
  have h1 : ∀ ns : List Int, PyData.canLayAll0 (ns.map PyData.int) = true := by
    intro ns
    induction ns with
    | nil => rfl
    | cons n ns ih => simp [PyData.canLayAll0, PyData.canLay0, ih]
  have h2 : ∀ ns : List Int, PyData.depthAll (ns.map PyData.int) ≤ 1 := by
    intro ns
    induction ns with
    | nil => simp [PyData.depthAll]
    | cons n ns ih => simp [PyData.depthAll, PyData.depth] at ih ⊢; omega
  have h3 := h2 ns
  unfold SeqAt.shaped
  rw [show PyData.canLay0 (.list (ns.map PyData.int)) = true from by rw [PyData.canLay0]; exact h1 ns, Bool.true_and]
  rw [decide_eq_true_eq, PyData.depth]
  omega
theorem g_isi {x : V} {a b : String} {r : Bool} (ty : TyOf K H x (.type a)) (h : kitB a b = some r) (q : Q (.bl r) H) : rIsiG K [x, .ty b] H Q := ⟨x, .ty b, .type a, .type b, r, rfl, .ty b, .base ty, kit_ty h, q⟩
end
/-! what is walked -/
section
variable {K : PySem.W.Frag} {te : TE} {ta : TA} {σ : L2.St} {H : Hp} {R : It → Hp → Prop} {n : Int} {p : Addr} {xs : List V} {x : Str}
theorem g_rng1 (h : ta σ H fun vs H1 => ∃ j : Int, vs = [.int j] ∧ -(2 ^ 62) ≤ j ∧ j < 2 ^ 62 ∧ R (Itr 0 j.toNat) H1) : iRng1 ta σ H R := h
theorem g_isrng {R : Int → Prop} (h1 : -(2 ^ 62) ≤ n) (h2 : n < 2 ^ 62) (q : R n) : ∃ j : Int, [V.int n] = [.int j] ∧ -(2 ^ 62) ≤ j ∧ j < 2 ^ 62 ∧ R j := ⟨n, rfl, h1, h2, q⟩
theorem g_seqL (h : te σ H fun x H1 => ∃ a, x = .ref a ∧ (∃ xs, SqL K H1 a xs) ∧ R (Itl K a) H1) : iSeq K te σ H R := .inl h
theorem g_seqT (h : te σ H fun x H1 => ∃ a, x = .ref a ∧ (∃ xs, SqT K H1 a xs) ∧ R (Itt K a) H1) : iSeq K te σ H R := .inr (.inl h)
theorem g_seqS (h : te σ H fun v H1 => ∃ x, v = .str x ∧ R (Its x) H1) : iSeq K te σ H R := .inr (.inr h)
theorem g_isL {R : Addr → Prop} (h : SqL K H p xs) (q : R p) : ∃ a, V.ref p = .ref a ∧ (∃ xs, SqL K H a xs) ∧ R a := ⟨p, rfl, ⟨xs, h⟩, q⟩
theorem g_isT {R : Addr → Prop} (h : SqT K H p xs) (q : R p) : ∃ a, V.ref p = .ref a ∧ (∃ xs, SqT K H a xs) ∧ R a := ⟨p, rfl, ⟨xs, h⟩, q⟩
theorem g_isS {R : Str → Prop} (q : R x) : ∃ y, V.str x = .str y ∧ R y := ⟨x, rfl, q⟩
def LcW (J : It) (g : TG) (tt : TT) (te : TE) (vs : List Nat) (σ : L2.St) (H1 : Hp) (D : Addr) (Qd : Hp → Prop) : Prop := ∃ W : Nat → Nat → Hp → Prop, (∃ m, W 0 m (upd H1 D (.lst []))) ∧ ∀ i m H, W i m H →
  (J.stop i H ∧ Qd H) ∨ (J.go i H ∧ ∃ Nx : Hp → Prop, (∀ H', Nx H' → ∃ m', m' < m ∧ W (i + 1) m' H') ∧ ∀ x H', J.yld i H x H' → g x (wipe σ vs) H' fun σ2 H2 => wipe σ2 vs = wipe σ vs ∧ tt σ2 H2 fun b H3 =>
    if b = true then te σ2 H3 fun y H4 => ∃ acc, H4 D = some (.lst acc) ∧ acc.length < sizeLine ∧ Nx (upd H4 D (.lst (acc ++ [y]))) else Nx H3)
def LcR (J : It) (g : TG) (tt : TT) (te : TE) (vs : List Nat) (σ : L2.St) (H1 : Hp) (R : Addr → Hp → Prop) : Prop := ∀ D, H1 D = none → LcW J g tt te vs σ H1 D (R D)
def ForW (J : It) (g : TG) (tb : TS) (D : Ends) (σ : L2.St) (H1 : Hp) : Prop := ∃ W : Nat → Nat → L2.St → Hp → Prop, (∃ m, W 0 m σ H1) ∧ ∀ i m σ H, W i m σ H →
  (J.stop i H ∧ D.nx σ H) ∨ (J.go i H ∧ ∃ N : L2.St → Hp → Prop, (∀ σ' H', N σ' H' → ∃ m', m' < m ∧ W (i + 1) m' σ' H') ∧ ∀ x H', J.yld i H x H' → g x σ H' fun σ2 H2 => tb { D with nx := N, ct := N, bk := D.nx } σ2 H2)
theorem g_lc {g : TG} {tt : TT} {vs : List Nat} {wi : TI} {Q : VK} (h : wi σ H fun J H1 => LcR J g tt te vs σ H1 fun D H => Q (.ref D) H) : tLc wi g tt te vs σ H Q := h
theorem g_for {g : TG} {wi : TI} {tb : TS} {D : Ends} (h : wi σ H fun J H1 => ForW J g tb D σ H1) : tFor wi g tb D σ H := h
theorem g_yes {Q : Bool → Hp → Prop} (q : Q true H) : tYes σ H Q := q
theorem g_wipe {A B : Prop} (a : A) (b : B) : A ∧ B := ⟨a, b⟩
end
section
variable {J : It} {g : TG} {tb : TS} {D : Ends} {σ : L2.St} {H H1 : Hp} {tt : TT} {te : TE} {vs : List Nat} {d : Addr} {Qd : Hp → Prop}
theorem for_any (n : Nat) (Pv : Nat → L2.St → Hp → Prop) (h0 : Pv 0 σ H) (hgo : ∀ i σ H, i < n → Pv i σ H → J.go i H) (hstop : ∀ σ H, Pv n σ H → J.stop n H)
    (hs : ∀ i x σ H H', i < n → Pv i σ H → J.yld i H x H' → g x σ H' fun σ2 H2 => tb { D with nx := Pv (i + 1), ct := Pv (i + 1), bk := D.nx } σ2 H2) (hd : ∀ σ H, Pv n σ H → D.nx σ H) :
    ForW J g tb D σ H := by
  refine ⟨fun i m σ H => Pv i σ H ∧ i ≤ n ∧ m = n - i, ⟨n, h0, Nat.zero_le _, rfl⟩, fun i m σ H ⟨hp, hi, hm⟩ => ?_⟩
  by_cases hin : i = n
  · subst hin
    exact .inl ⟨hstop _ _ hp, hd _ _ hp⟩
  · have hlt : i < n := by omega
    exact .inr ⟨hgo _ _ _ hlt hp, Pv (i + 1), fun σ' H' h' => ⟨n - (i + 1), by omega, h', hlt, rfl⟩, fun x H' hy => hs i x σ H H' hlt hp hy⟩
/-- the list at d behind the i-th turn -/
def NxR (R : Nat → List V → Hp → Prop) (d : Addr) (i : Nat) (H : Hp) : Prop := ∃ acc, H d = some (.lst acc) ∧ acc.length ≤ i ∧ R i acc H
theorem lc_step {R : Nat → List V → Hp → Prop} {i : Nat} {acc : List V} {y : V} (h : H d = some (.lst acc)) (hl : acc.length ≤ i) (hi : i < sizeLine) (q : Put H d (.lst (acc ++ [y])) fun H5 => R (i + 1) (acc ++ [y]) H5) :
    ∃ acc, H d = some (.lst acc) ∧ acc.length < sizeLine ∧ NxR R d (i + 1) (upd H d (.lst (acc ++ [y]))) :=
  ⟨acc, h, Nat.lt_of_le_of_lt hl hi, acc ++ [y], upd_same, by rw [List.length_append, List.length_singleton]; omega, q.at⟩
theorem lc_any (n : Nat) (R : Nat → List V → Hp → Prop) (hD : H1 d = none) (h0 : ∀ H', H' d = some (.lst []) → Same H1 H' → R 0 [] H') (hgo : ∀ i acc H, i < n → R i acc H → J.go i H) (hstop : ∀ acc H, R n acc H → J.stop n H)
    (hs : ∀ i x acc H H', i < n → acc.length ≤ i → R i acc H → H d = some (.lst acc) → J.yld i H x H' → g x (wipe σ vs) H' fun σ2 H2 => wipe σ2 vs = wipe σ vs ∧ tt σ2 H2 fun b H3 =>
      if b = true then te σ2 H3 fun y H4 => ∃ acc, H4 d = some (.lst acc) ∧ acc.length < sizeLine ∧ NxR R d (i + 1) (upd H4 d (.lst (acc ++ [y]))) else NxR R d (i + 1) H3)
    (hd : ∀ acc H, H d = some (.lst acc) → R n acc H → Qd H) :
    LcW J g tt te vs σ H1 d Qd := by
  refine ⟨fun i m H => NxR R d i H ∧ i ≤ n ∧ m = n - i, ⟨n, ⟨[], upd_same, Nat.le_refl _, h0 _ upd_same (same_upd hD)⟩, Nat.zero_le _, rfl⟩, fun i m H ⟨⟨acc, ha, hl, hr⟩, hi, hm⟩ => ?_⟩
  by_cases hin : i = n
  · subst hin
    exact .inl ⟨hstop _ _ hr, hd _ _ ha hr⟩
  · have hlt : i < n := by omega
    exact .inr ⟨hgo _ _ _ hlt hr, NxR R d (i + 1), fun H' h' => ⟨n - (i + 1), by omega, h', hlt, rfl⟩, fun x H' hy => hs i x acc H H' hlt hl hr ha hy⟩
end

/-! ### data of tuples alone -/
mutual
inductive Tp (H : Hp) : V → PyData → Prop
  | non : Tp H .non .none
  | bl (b : Bool) : Tp H (.bl b) (.bool b)
  | int (i : Int) : Tp H (.int i) (.int i)
  | str (x : Str) : Tp H (.str x) (.str x)
  | tup {a : Addr} {xs : List V} {ds : List PyData} : H a = some (.tup xs) → Tps H xs ds → Tp H (.ref a) (.tuple ds)
inductive Tps (H : Hp) : List V → List PyData → Prop
  | nil : Tps H [] []
  | cons {v : V} {vs : List V} {d : PyData} {ds : List PyData} : Tp H v d → Tps H vs ds → Tps H (v :: vs) (d :: ds)
end
/-- the tuples stay -/
def Tk (H H' : Hp) : Prop := ∀ b xs, H b = some (.tup xs) → H' b = some (.tup xs)
theorem Tk.refl (H : Hp) : Tk H H := fun _ _ e => e
theorem Tk.trans {H H1 H2 : Hp} (a : Tk H H1) (b : Tk H1 H2) : Tk H H2 := fun c xs e => b c xs (a c xs e)
theorem Same.tk {H H' : Hp} (s : Same H H') : Tk H H' := fun b xs e => s b _ e
theorem Chg.tk {H H' : Hp} {a : Addr} (c : Chg a H H') (h : ∀ xs, H a ≠ some (.tup xs)) : Tk H H' := fun b xs e => c b _ (fun z => h xs (z ▸ e)) e
theorem Chg.tkl {H H' : Hp} {a : Addr} {ys : List V} (c : Chg a H H') (h : H a = some (.lst ys)) : Tk H H' := c.tk fun xs e => by rw [h] at e; cases e
mutual
theorem Tp.mono {H H' : Hp} (k : Tk H H') : ∀ {d : PyData} {v : V}, Tp H v d → Tp H' v d
  | .none, _, h => by cases h; exact .non
  | .bool b, _, h => by cases h; exact .bl b
  | .int i, _, h => by cases h; exact .int i
  | .str x, _, h => by cases h; exact .str x
  | .tuple ds, _, h => by
    cases h with
    | tup e r => exact .tup (k _ _ e) (Tps.mono k r)
  | .list ds, _, h => by cases h
  | .dict ds, _, h => by cases h
theorem Tps.mono {H H' : Hp} (k : Tk H H') : ∀ {ds : List PyData} {vs : List V}, Tps H vs ds → Tps H' vs ds
  | [], _, h => by cases h; exact .nil
  | d :: ds, _, h => by
    cases h with
    | cons a b => exact .cons (Tp.mono k a) (Tps.mono k b)
end
mutual
theorem Tp.dp {K : PySem.W.Frag} {H : Hp} : ∀ {d : PyData} {v : V}, Tp H v d → Dp K H v d
  | .none, _, h => by cases h; exact .non
  | .bool b, _, h => by cases h; exact .bl b
  | .int i, _, h => by cases h; exact .int i
  | .str x, _, h => by cases h; exact .str x
  | .tuple ds, _, h => by
    cases h with
    | tup e r => exact .tup (.of e) (Tps.dp r)
  | .list ds, _, h => by cases h
  | .dict ds, _, h => by cases h
theorem Tps.dp {K : PySem.W.Frag} {H : Hp} : ∀ {ds : List PyData} {vs : List V}, Tps H vs ds → DpAll K H vs ds
  | [], _, h => by cases h; exact .nil
  | d :: ds, _, h => by
    cases h with
    | cons a b => exact .cons (Tp.dp a) (Tps.dp b)
end
section
variable {H : Hp} {xs ys : List V} {ds es : List PyData} {v : V} {d : PyData}
theorem Tps.length : ∀ {xs : List V} {ds : List PyData}, Tps H xs ds → xs.length = ds.length
  | [], _, h => by cases h; rfl
  | x :: xs, _, h => by
    cases h with
    | cons a b => rw [List.length_cons, List.length_cons, Tps.length b]
theorem Tps.append : ∀ {xs : List V} {ds : List PyData}, Tps H xs ds → Tps H ys es → Tps H (xs ++ ys) (ds ++ es)
  | [], _, h, h2 => by cases h; exact h2
  | x :: xs, _, h, h2 => by
    cases h with
    | cons a b => exact .cons a (Tps.append b h2)
theorem Tps.one (h : Tp H v d) : Tps H [v] [d] := .cons h .nil
theorem Tps.get : ∀ {xs : List V} {ds : List PyData} {i : Nat} {v : V}, Tps H xs ds → xs[i]? = some v → ∃ d, ds[i]? = some d ∧ Tp H v d
  | [], _, i, v, _, e => by simp at e
  | x :: xs, _, 0, v, h, e => by
    cases h with
    | cons a b =>
      simp only [List.getElem?_cons_zero, Option.some.injEq] at e
      subst e
      exact ⟨_, rfl, a⟩
  | x :: xs, _, i + 1, v, h, e => by
    cases h with
    | cons a b =>
      rw [List.getElem?_cons_succ] at e
      obtain ⟨d, h1, h2⟩ := Tps.get b e
      exact ⟨d, by rw [List.getElem?_cons_succ]; exact h1, h2⟩
theorem Tps.at : ∀ {xs : List V} {ds : List PyData} {i : Nat} {d : PyData}, Tps H xs ds → ds[i]? = some d → ∃ v, xs[i]? = some v ∧ Tp H v d
  | xs, [], i, d, _, e => by simp at e
  | _, d0 :: ds, 0, d, h, e => by
    cases h with
    | cons a b =>
      simp only [List.getElem?_cons_zero, Option.some.injEq] at e
      subst e
      exact ⟨_, rfl, a⟩
  | _, d0 :: ds, i + 1, d, h, e => by
    cases h with
    | cons a b =>
      rw [List.getElem?_cons_succ] at e
      obtain ⟨v, h1, h2⟩ := Tps.at b e
      exact ⟨v, by rw [List.getElem?_cons_succ]; exact h1, h2⟩
theorem Tps.take : ∀ {xs : List V} {ds : List PyData} (n : Nat), Tps H xs ds → Tps H (xs.take n) (ds.take n)
  | _, _, 0, _ => .nil
  | [], _, n + 1, h => by cases h; exact .nil
  | x :: xs, _, n + 1, h => by
    cases h with
    | cons a b => exact .cons a (Tps.take n b)
theorem Tps.drop : ∀ {xs : List V} {ds : List PyData} (n : Nat), Tps H xs ds → Tps H (xs.drop n) (ds.drop n)
  | _, _, 0, h => h
  | [], _, n + 1, h => by cases h; exact .nil
  | x :: xs, _, n + 1, h => by
    cases h with
    | cons a b => exact Tps.drop n b
theorem Tps.reverse : ∀ {xs : List V} {ds : List PyData}, Tps H xs ds → Tps H xs.reverse ds.reverse
  | [], _, h => by cases h; exact .nil
  | x :: xs, _, h => by
    cases h with
    | cons a b =>
      rw [List.reverse_cons, List.reverse_cons]
      exact Tps.append (Tps.reverse b) (.one a)
theorem Tps.strs : ∀ ss : List Str, Tps H (ss.map V.str) (ss.map PyData.str)
  | [] => .nil
  | s :: ss => .cons (.str s) (Tps.strs ss)
theorem Tps.ints : ∀ ss : List Int, Tps H (ss.map V.int) (ss.map PyData.int)
  | [] => .nil
  | s :: ss => .cons (.int s) (Tps.ints ss)
end
def isName (s : Str) : Prop := 1 ≤ s.length ∧ s.length ≤ 8 ∧ ∀ c ∈ s.cps.toList, 97 ≤ c ∧ c < 123
/-! ### parts -/
inductive K1 | left | right
  deriving DecidableEq
def K1.word : K1 → Str
  | .left => "left"
  | .right => "right"
inductive K2 | give | plus | less | times | below | pair
  deriving DecidableEq
def K2.word : K2 → Str
  | .give => "give"
  | .plus => "plus"
  | .less => "less"
  | .times => "times"
  | .below => "below"
  | .pair => "pair"
mutual
inductive Part
  | num (n : Int) | name (x : Str) | fn (f : Str) | one (k : K1) (a : Part) | two (k : K2) (a b : Part) | whn (a b c : Part) | letp (r : Rows) (a : Part) | shut (a : Part)
inductive Rows
  | nil | cons (x : Str) (a : Part) (r : Rows)
end
mutual
def Part.data : Part → PyData
  | .num n => .tuple [.str "number", .int n]
  | .name x => .tuple [.str "name", .str x]
  | .fn f => .tuple [.str "fun", .str f]
  | .one k a => .tuple [.str k.word, a.data]
  | .two k a b => .tuple [.str k.word, a.data, b.data]
  | .whn a b c => .tuple [.str "when", a.data, b.data, c.data]
  | .letp r a => .tuple [.str "let", .tuple r.datas, a.data]
  | .shut a => .tuple [.str "shut", a.data]
def Rows.datas : Rows → List PyData
  | .nil => []
  | .cons x a r => .tuple [.str x, a.data] :: r.datas
end
mutual
/-- how many parts -/
def Part.size : Part → Nat
  | .num _ => 1
  | .name _ => 1
  | .fn _ => 1
  | .one _ a => 1 + a.size
  | .two _ a b => 1 + (a.size + b.size)
  | .whn a b c => 1 + (a.size + (b.size + c.size))
  | .letp r a => 1 + (r.size + a.size)
  | .shut _ => 1
def Rows.size : Rows → Nat
  | .nil => 0
  | .cons _ a r => a.size + r.size
end
mutual
def Part.deep : Part → Nat
  | .num _ => 1
  | .name _ => 1
  | .fn _ => 1
  | .one _ a => 1 + a.deep
  | .two _ a b => 1 + max a.deep b.deep
  | .whn a b c => 1 + max a.deep (max b.deep c.deep)
  | .letp r a => 1 + max r.deep a.deep
  | .shut _ => 1
def Rows.deep : Rows → Nat
  | .nil => 0
  | .cons _ a r => max a.deep r.deep
end
def Rows.names : Rows → List Str
  | .nil => []
  | .cons x _ r => x :: r.names
def Rows.parts : Rows → List Part
  | .nil => []
  | .cons _ a r => a :: r.parts
def Rows.app : Rows → Rows → Rows
  | .nil, s => s
  | .cons x a r, s => .cons x a (r.app s)
def Part.kids : Part → List Part
  | .num _ => []
  | .name _ => []
  | .fn _ => []
  | .one _ a => [a]
  | .two _ a b => [a, b]
  | .whn a b c => [a, b, c]
  | .letp r a => r.parts ++ [a]
  | .shut _ => []
mutual
/-- the names of the rows of all lets, in the order of places -/
def Part.rowNames : Part → List Str
  | .num _ => []
  | .name _ => []
  | .fn _ => []
  | .one _ a => a.rowNames
  | .two _ a b => a.rowNames ++ b.rowNames
  | .whn a b c => a.rowNames ++ (b.rowNames ++ c.rowNames)
  | .letp r a => r.names ++ (r.rowNames ++ a.rowNames)
  | .shut _ => []
def Rows.rowNames : Rows → List Str
  | .nil => []
  | .cons _ a r => a.rowNames ++ r.rowNames
end
mutual
/-- a part of a program: names in scope, funs there, small numbers, one to four rows -/
def Part.ok (fs : List Str) : List Str → Part → Prop
  | sc, .num n => n.natAbs < 10 ^ 60
  | sc, .name x => x ∈ sc ∧ isName x
  | sc, .fn f => f ∈ fs ∧ isName f
  | sc, .one _ a => a.ok fs sc
  | sc, .two _ a b => a.ok fs sc ∧ b.ok fs sc
  | sc, .whn a b c => a.ok fs sc ∧ b.ok fs sc ∧ c.ok fs sc
  | sc, .letp r a => r.names.length ≤ 4 ∧ r.names ≠ [] ∧ (∀ x ∈ r.names, isName x) ∧ r.ok fs (sc ++ r.names) ∧ a.ok fs (sc ++ r.names)
  | _, .shut _ => False
def Rows.ok (fs : List Str) : List Str → Rows → Prop
  | _, .nil => True
  | sc, .cons _ a r => a.ok fs sc ∧ r.ok fs sc
end
theorem Rows.app_datas : ∀ r s : Rows, (r.app s).datas = r.datas ++ s.datas
  | .nil, s => rfl
  | .cons x a r, s => by
    show _ :: (r.app s).datas = _
    rw [Rows.app_datas r s]
    rfl
theorem Rows.app_names : ∀ r s : Rows, (r.app s).names = r.names ++ s.names
  | .nil, s => rfl
  | .cons x a r, s => by
    show _ :: (r.app s).names = _
    rw [Rows.app_names r s]
    rfl
theorem Rows.app_size : ∀ r s : Rows, (r.app s).size = r.size + s.size
  | .nil, s => by show s.size = 0 + s.size; omega
  | .cons x a r, s => by
    show _ + (r.app s).size = _ + r.size + _
    rw [Rows.app_size r s]
    omega
theorem Rows.app_deep : ∀ r s : Rows, (r.app s).deep = max r.deep s.deep
  | .nil, s => by show s.deep = max 0 s.deep; omega
  | .cons x a r, s => by
    show max _ (r.app s).deep = max (max _ r.deep) _
    rw [Rows.app_deep r s]
    omega
theorem Rows.app_rowNames : ∀ r s : Rows, (r.app s).rowNames = r.rowNames ++ s.rowNames
  | .nil, s => rfl
  | .cons x a r, s => by
    show _ ++ (r.app s).rowNames = (_ ++ r.rowNames) ++ _
    rw [Rows.app_rowNames r s, List.append_assoc]
theorem Rows.app_ok {fs : List Str} : ∀ {sc : List Str} {r s : Rows}, r.ok fs sc → s.ok fs sc → (r.app s).ok fs sc
  | sc, .nil, s, _, h => h
  | sc, .cons x a r, s, h, h2 => ⟨h.1, Rows.app_ok h.2 h2⟩

/-! ### written tables, from what the top has left -/
theorem keys_miss {P : Params} {z : Str} : ∀ {l : List DictEntry} {ks : List Str}, l.map He.keyOf = He.keysIn P ks → z ∉ ks → l.find? (·.key.isStr z) = none ∧ l.any (·.refKey) = false
  | [], _, _, _ => ⟨rfl, rfl⟩
  | e :: r, [], h, _ => by cases h
  | e :: r, k :: ks, h, hz => by
    have h1 : He.keyOf e :: r.map He.keyOf = some (k, PyData.keyHash P k) :: He.keysIn P ks := h
    injection h1 with h2 h3
    obtain ⟨i1, i2⟩ := keys_miss h3 fun m => hz (List.mem_cons_of_mem _ m)
    unfold He.keyOf at h2
    split at h2
    · rename_i x t q
      obtain ⟨h5, h6⟩ := Prod.mk.inj (Option.some.inj h2)
      have hne : ¬ x = z := fun e => hz (by rw [← e, h5]; exact List.mem_cons_self ..)
      refine ⟨?_, ?_⟩
      · rw [List.find?_cons, show e.key.isStr z = false from by rw [q, PySem.W.isStr_of]; show (x == z) = false; simp [hne]]
        exact i1
      · rw [List.any_cons, i2, Bool.or_false]
        unfold DictEntry.refKey
        rw [q]
    · cases h2
theorem ktab_of {K : PySem.W.Frag} {w : World} {a : Addr} {kvs : List (Str × He.Dv)} (h : He.dicW K a = some (He.keysIn w.params (kvs.map (·.1)))) (hv : He.valsB K a kvs = true) : KTab K w a (kvs.map fun q => (q.1, q.2.v K)) := by
  intro z
  obtain ⟨es, n, D⟩ := He.dicW_ok h
  refine ⟨es, n, D, ?_⟩
  by_cases hz : z ∈ kvs.map (·.1)
  · right
    obtain ⟨q0, hq0, rfl⟩ := List.mem_map.mp hz
    cases hf : kvs.find? (fun q => decide (q.1 = q0.1)) with
    | none =>
      have := List.find?_eq_none.mp hf q0 hq0
      simp at this
    | some q =>
      have hq := List.mem_of_find?_eq_some hf
      have hqe := List.find?_some hf
      have hqe := of_decide_eq_true hqe
      obtain ⟨u, h1, h2⟩ := He.valsB_ok hv hq
      refine ⟨u, q.2.v K, ?_, by rw [← hqe]; exact h1, h2⟩
      rw [List.find?_map]
      show Option.map _ (Option.map _ (kvs.find? fun q => decide (q.1 = q0.1))) = _
      rw [hf]
      rfl
  · left
    have hl : es.toList.map He.keyOf = He.keysIn w.params (kvs.map (·.1)) := by
      unfold He.dicW at h
      rw [D.at_] at h
      dsimp only at h
      split at h
      · exact Option.some.inj h
      · cases h
    obtain ⟨i1, i2⟩ := keys_miss hl hz
    refine ⟨?_, ?_⟩
    · rw [List.find?_map]
      show Option.map _ (Option.map _ (kvs.find? fun q => decide (q.1 = z))) = _
      rw [show kvs.find? (fun q => decide (q.1 = z)) = none from List.find?_eq_none.mpr fun q hq e => hz (by rw [← of_decide_eq_true e]; exact List.mem_map.mpr ⟨q, hq, rfl⟩)]
      rfl
    · unfold PySem.W.nsIn
      rw [D.at_]
      dsimp only
      rw [i1]
      dsimp only
      rw [i2]
      rfl
theorem tab_at {fa : List He.Fa} {fn : List He.DefD} {ts : List He.Tab} {w : World} {K : PySem.W.Frag} (c : He.SaysT fa fn ts w K) (i : Nat) {t : He.Tab} (h : ts[i]? = some t) : He.dicW K (t.1 K) = some (He.keysIn w.params t.2) := by
  have e : ts.map (fun t => He.dicW K (t.1 K)) = ts.map fun t => some (He.keysIn w.params t.2) := congrArg (fun z : He.AlT => z.2) c
  have e2 : (ts.map fun t => He.dicW K (t.1 K))[i]? = (ts.map fun t => some (He.keysIn w.params t.2))[i]? := by rw [e]
  rw [List.getElem?_map, List.getElem?_map, h] at e2
  exact Option.some.inj e2

/-! ### more methods of lists -/
section
variable {X : Cx}
def rClearG : V → List V → Hp → VK → Prop := fun x vs H Q => ∃ l xs, x = .ref l ∧ vs = [] ∧ H l = some (.lst xs) ∧ Put H l (.lst []) fun H' => Q .non H'
theorem mt_clearG : MtR X "list.clear" rClearG := mtr_imp (r := rClear) mt_clear fun x xs H Q ⟨l, ys, e1, e2, h, q⟩ => ⟨l, ys, e1, e2, h, q.at⟩
/-! dicts: a copy, a clearing -/
def rDClearG : V → List V → Hp → VK → Prop := fun x vs H Q => ∃ (a : Addr) (kvs : List (Key × V)), x = .ref a ∧ vs = [] ∧ H a = some (.dK kvs) ∧ Put H a (.dK []) fun H' => Q .non H'
theorem mt_dclearG : MtR X "dict.clear" rDClearG := by
  intro pins s σ H x vs v us Q I rx rv h
  obtain ⟨a, kvs, ex, ev, e, q⟩ := h
  subst ex
  subst ev
  obtain rfl : v = Value.ref a := rx
  have hus := rv.zero
  subst hus
  exact d_clear I e fun s' I' => ⟨.non, _, I', rfl, q.at⟩
def rDictG : List V → Hp → VK → Prop := fun xs H Q => ∃ (a : Addr) (kvs : List (Key × V)), xs = [.ref a] ∧ H a = some (.dK kvs) ∧ New H (.dK kvs) fun p H' => Q (.ref p) H'
/-- a list so many times -/
def rRepG : R2 := fun x y H Q => ∃ l k xs, x = .ref l ∧ y = .int k ∧ H l = some (.lst xs) ∧ -(2 ^ 63) ≤ k ∧ k < 2 ^ 63 ∧ xs.length * k.toNat ≤ sizeLine ∧ New H (.lst (List.replicate k.toNat xs).flatten) fun p H' => Q (.ref p) H'
theorem op_repG : OpR X (binaryOp .Mult) rRepG := opr_imp op_rep fun x y H Q ⟨l, k, xs, e1, e2, h, h1, h2, h3, n⟩ => ⟨l, k, xs, e1, e2, h, h1, h2, h3, n.at⟩
/-- a statement that is never come to -/
def tNever : TS := fun _ _ _ => False
theorem ps_never {st : Stmt} : PS X st tNever := ⟨fun _ _ _ _ _ _ h => h.elim⟩
/-- dict(l) of a list of pairs -/
def rDictP (K : PySem.W.Frag) : List V → Hp → VK → Prop := fun xs H Q => ∃ (a : Addr) (ps : List Addr) (kvs : List (Key × V)), xs = [.ref a] ∧ SqL K H a (ps.map V.ref) ∧ Paired (fun p kv => SqT K H p [kV kv.1, kv.2]) ps kvs ∧ New H (.dK (mergeK [] kvs)) fun p H' => Q (.ref p) H'
theorem call_dictPG (hc : X.calm = true) : CallR X (.type "dict") (rDictP X.K) := callr_imp (call_dictP hc) fun xs H Q ⟨a, ps, kvs, e, h, hp, n⟩ => ⟨a, ps, kvs, e, h, hp, n.at⟩
theorem call_dictG : CallR X (.type "dict") rDictG := callr_imp call_dictD fun xs H Q ⟨a, kvs, e, h, n⟩ => ⟨a, kvs, e, .of h, n.at⟩
end
section
variable {K : PySem.W.Frag} {w : World} {H : Hp} {Q : VK} {a : Addr} {xs : List V} {ss : List Str} {k : Str} {j : Nat} {R : It → Hp → Prop} {σ : L2.St} {ta : TA}
theorem g_clear (h : H a = some (.lst xs)) (q : Put H a (.lst []) fun H' => Q .non H') : rClearG (.ref a) [] H Q := ⟨a, xs, rfl, rfl, h, q⟩
/-- the place of a text among unlike ones -/
theorem g_indexS (h : SqL K H a (ss.map V.str)) (nd : ss.Nodup) (e : ss[j]? = some k) (q : Q (.int (j : Nat)) H) : rIndex K (.ref a) [.str k] H Q := by
  refine ⟨a, ss.map V.str, .str k, j, .str k, rfl, rfl, h, rfl, flat_strs ss, by rw [List.getElem?_map, e]; rfl, by simp [eqV], fun m z' hm hz => ?_, q⟩
  rw [List.getElem?_map] at hz
  obtain ⟨s, hs, rfl⟩ := Option.map_eq_some_iff.mp hz
  show (s == k) = false
  have hne : s ≠ k := by
    rintro rfl
    obtain ⟨h1, h2⟩ := List.getElem?_eq_some_iff.mp hs
    obtain ⟨h3, h4⟩ := List.getElem?_eq_some_iff.mp e
    have := (List.pairwise_iff_getElem.mp nd) m j h1 h3 hm
    exact this (h2.trans h4.symm)
  simpa using hne
theorem g_enum (h : ta σ H fun vs H1 => ∃ a xs, vs = [.ref a] ∧ SqL K H1 a xs ∧ R (Ite K a) H1) : iEnum K ta σ H R := h
end

/-! ### what is known of a heap, from the heaps ahead -/
section
variable {H H1 H' : Hp} {a b d p : Addr} {o : HO} {xs ys : List V}
theorem Same.to (s : Same H H') (h : H b = some o) : H' b = some o := s b o h
theorem Chg.to (c : Chg a H H') (h : H b = some o) (n : b ≠ a) : H' b = some o := c b o n h
theorem Tk.to (k : Tk H H') (h : H b = some (.tup xs)) : H' b = some (.tup xs) := k b xs h
/-- nothing is at p (a word of its own, so that it is found by its heap) -/
def Fr (H : Hp) (p : Addr) : Prop := H p = none
theorem ne_fr (h : H b = some o) (h' : Fr H a) : b ≠ a := ne_of_none h h'
theorem New.mk {R : Addr → Hp → Prop} (h : ∀ p H', Fr H p → H' p = some o → Same H H' → R p H') : New H o R := h
theorem Put.mk {R : Hp → Prop} (h : ∀ H', H' a = some o → Chg a H H' → R H') : Put H a o R := h
theorem Chg.free (c : Chg a H H') (n : b ≠ a) (h : H' b = none) : H b = none := by
  cases e : H b with
  | none => rfl
  | some o => rw [c b o n e] at h; cases h
theorem Chg.fresh (i : Chg p H H1) (hd : H d = none) (c : Chg d H1 H') : Chg p H H' := fun b o hb e => c b o (ne_of_none e hd) (i b o hb e)
theorem Tk.same (i : Tk H H1) (s : Same H1 H') : Tk H H' := i.trans (Same.tk s)
theorem Tk.lst (i : Tk H H1) (c : Chg a H1 H') (h : H1 a = some (.lst ys)) : Tk H H' := i.trans (c.tkl h)
theorem Tk.dct {kvs : List (Key × V)} (i : Tk H H1) (c : Chg a H1 H') (h : H1 a = some (.dK kvs)) : Tk H H' := i.trans (c.tk fun xs e => by rw [h] at e; cases e)
theorem Same.more (i : Same H H1) (s : Same H1 H') : Same H H' := i.trans s
theorem Same.more2 (i : Same H H1) (c : Chg d H1 H') (h : H d = none) : Same H H' := Same.chg i h c
theorem Tp.to {v : V} {e : PyData} (h : Tp H v e) (k : Tk H H') : Tp H' v e := h.mono k
theorem Tps.to {vs : List V} {es : List PyData} (h : Tps H vs es) (k : Tk H H') : Tps H' vs es := h.mono k
end
section
variable {K : PySem.W.Frag} {w : World} {H : Hp} {v x y z : V} {i j k : Nat} {p a b : Addr} {xs ys : List V} {Q : VK} {σ : L2.St}
theorem g_ixTa {i : Int} (h : H p = some (.tup xs)) (e : xs[i.toNat]? = some v) (h0 : 0 ≤ i) (q : Q v H) : rIxG K w (.ref p) (.int i) H Q := g_ixT (.of h) (atI_of h0 e) q
theorem g_ixLa {i : Int} (h : H p = some (.lst xs)) (e : xs[i.toNat]? = some v) (h0 : 0 ≤ i) (q : Q v H) : rIxG K w (.ref p) (.int i) H Q := g_ixL (.of h) (atI_of h0 e) q
theorem g_isLa {R : Addr → Prop} (h : H p = some (.lst xs)) (q : R p) : ∃ a, V.ref p = .ref a ∧ (∃ xs, SqL K H a xs) ∧ R a := g_isL (.of h) q
theorem g_isTa {R : Addr → Prop} (h : H p = some (.tup xs)) (q : R p) : ∃ a, V.ref p = .ref a ∧ (∃ xs, SqT K H a xs) ∧ R a := g_isT (.of h) q
theorem g_inX {k : Str} {r : Bool} (h : H p = some (.tup xs)) (f : xs.all flatV = true) (e : inV (.str k) xs = r) (q : Q (.bl r) H) : rInG K w false (.str k) (.ref p) H Q := .inl ⟨p, xs, rfl, .inr (.of h), rfl, f, by rw [e]; exact q⟩
theorem g_notInX {k : Str} {r : Bool} (h : H p = some (.tup xs)) (f : xs.all flatV = true) (e : inV (.str k) xs = r) (q : Q (.bl (!r)) H) : rInG K w true (.str k) (.ref p) H Q := .inl ⟨p, xs, rfl, .inr (.of h), rfl, f, by rw [e]; exact q⟩
theorem g_lstTx {R : Addr → Hp → Prop} (h : H p = some (.tup xs)) (q : R p H) : ∃ a, V.ref p = .ref a ∧ R a H := ⟨p, rfl, q⟩
end
/-! comprehensions that make of each item one thing, where no old object changes -/
theorem Tps.of_get {H : Hp} : ∀ {us : List V} {ds : List PyData}, us.length = ds.length → (∀ (i : Nat) y, us[i]? = some y → ∃ d, ds[i]? = some d ∧ Tp H y d) → Tps H us ds
  | [], [], _, _ => .nil
  | u :: us, d :: ds, hl, h => by
    refine .cons ?_ (Tps.of_get (Nat.succ.inj hl) fun i y hy => h (i + 1) y hy)
    obtain ⟨d', h1, h2⟩ := h 0 u rfl
    cases h1
    exact h2
section
variable {K : PySem.W.Frag} {H1 : Hp} {g : TG} {te : TE} {vs : List Nat} {σ : L2.St} {a : Addr} {xs : List V} {Qd : Addr → Hp → Prop} {F : Nat → V → Hp → Prop}
theorem lc_map_any {J : It} (hJ1 : ∀ i H', i < xs.length → Same H1 H' → J.go i H') (hJ2 : ∀ H', Same H1 H' → J.stop xs.length H') (hJ3 : ∀ i H' x H2, Same H1 H' → J.yld i H' x H2 → H2 = H' ∧ xs[i]? = some x)
    (hl : xs.length ≤ 100000) (F : Nat → V → Hp → Prop) (hF : ∀ i y H H', Tk H H' → F i y H → F i y H')
    (hs : ∀ (i : Nat) x H' (Nx : V → Hp → Prop), xs[i]? = some x → Same H1 H' → (∀ y H4, Same H' H4 → F i y H4 → Nx y H4) → g x (wipe σ vs) H' fun σ2 H2 => wipe σ2 vs = wipe σ vs ∧ te σ2 H2 Nx)
    (hd : ∀ D (ys : List V) H', Fr H1 D → H' D = some (.lst ys) → ys.length = xs.length → (∀ (i : Nat) y, ys[i]? = some y → F i y H') → Same H1 H' → Qd D H') : LcR J g tYes te vs σ H1 Qd := by
  intro D hD
  refine lc_any xs.length (fun i acc H' => acc.length = i ∧ (∀ (j : Nat) y, acc[j]? = some y → F j y H') ∧ Same H1 H') hD (fun H' _ s => ⟨rfl, by simp, s⟩) (fun i acc H' hi ⟨_, _, s⟩ => hJ1 i H' hi s) (fun acc H' ⟨_, _, s⟩ => hJ2 H' s) ?_ ?_
  · rintro i x acc H2 H' hi hla ⟨ha, hf, s2⟩ hd2 hy
    obtain ⟨rfl, hx⟩ := hJ3 i _ _ _ s2 hy
    refine hs i x _ _ hx s2 fun y H4 s4 f4 => ?_
    refine lc_step (s4 _ _ hd2) hla (by show _ < 16777216; omega) fun H5 e5 c5 => ?_
    have k5 : Tk H4 H5 := c5.tkl (s4 _ _ hd2)
    refine ⟨by rw [List.length_append, ha]; rfl, fun j z hz => ?_, Same.chg (s2.trans s4) hD c5⟩
    by_cases hj : j < acc.length
    · rw [List.getElem?_append_left hj] at hz
      exact hF _ _ _ _ ((Same.tk s4).trans k5) (hf j z hz)
    · have hj2 : j < (acc ++ [y]).length := (List.getElem?_eq_some_iff.mp hz).1
      rw [List.length_append, List.length_singleton] at hj2
      have : j = acc.length := by omega
      subst this
      rw [List.getElem?_append_right (Nat.le_refl _), Nat.sub_self] at hz
      cases hz
      rw [ha]
      exact hF _ _ _ _ k5 f4
  · rintro acc H' hd2 ⟨ha, hf, s⟩
    exact hd D acc H' hD hd2 ha hf s
theorem lc_mapT (ea : H1 a = some (.tup xs)) (hl : xs.length ≤ 100000) (F : Nat → V → Hp → Prop) (hF : ∀ i y H H', Tk H H' → F i y H → F i y H')
    (hs : ∀ (i : Nat) x H' (Nx : V → Hp → Prop), xs[i]? = some x → Same H1 H' → (∀ y H4, Same H' H4 → F i y H4 → Nx y H4) → g x (wipe σ vs) H' fun σ2 H2 => wipe σ2 vs = wipe σ vs ∧ te σ2 H2 Nx)
    (hd : ∀ D (ys : List V) H', Fr H1 D → H' D = some (.lst ys) → ys.length = xs.length → (∀ (i : Nat) y, ys[i]? = some y → F i y H') → Same H1 H' → Qd D H') : LcR (Itt K a) g tYes te vs σ H1 Qd :=
  lc_map_any (xs := xs) (fun i H' hi s => ⟨_, _, .of (s _ _ ea), List.getElem?_eq_getElem hi⟩) (fun H' s => ⟨_, .of (s _ _ ea), Nat.le_refl _⟩) (fun i H' x H2 s ⟨e, hx⟩ => ⟨e, hx _ (.of (s _ _ ea))⟩) hl F hF hs hd
theorem lc_mapL (ea : H1 a = some (.lst xs)) (hl : xs.length ≤ 100000) (F : Nat → V → Hp → Prop) (hF : ∀ i y H H', Tk H H' → F i y H → F i y H')
    (hs : ∀ (i : Nat) x H' (Nx : V → Hp → Prop), xs[i]? = some x → Same H1 H' → (∀ y H4, Same H' H4 → F i y H4 → Nx y H4) → g x (wipe σ vs) H' fun σ2 H2 => wipe σ2 vs = wipe σ vs ∧ te σ2 H2 Nx)
    (hd : ∀ D (ys : List V) H', Fr H1 D → H' D = some (.lst ys) → ys.length = xs.length → (∀ (i : Nat) y, ys[i]? = some y → F i y H') → Same H1 H' → Qd D H') : LcR (Itl K a) g tYes te vs σ H1 Qd :=
  lc_map_any (xs := xs) (fun i H' hi s => ⟨_, _, .of (s _ _ ea), List.getElem?_eq_getElem hi⟩) (fun H' s => ⟨_, .of (s _ _ ea), Nat.le_refl _⟩) (fun i H' x H2 s ⟨e, hx⟩ => ⟨e, hx _ (.of (s _ _ ea))⟩) hl F hF hs hd
end
/-! for over a tuple, over a list that stays -/
section
variable {K : PySem.W.Frag} {g : TG} {tb : TS} {D : Ends} {σ : L2.St} {H : Hp} {a : Addr} {xs : List V}
theorem for_T (Pv : Nat → L2.St → Hp → Prop) (ha : ∀ i σ H', Pv i σ H' → H' a = some (.tup xs)) (h0 : Pv 0 σ H)
    (hs : ∀ (i : Nat) x σ H', xs[i]? = some x → Pv i σ H' → g x σ H' fun σ2 H2 => tb { D with nx := Pv (i + 1), ct := Pv (i + 1), bk := D.nx } σ2 H2) (hd : ∀ σ H', Pv xs.length σ H' → D.nx σ H') : ForW (Itt K a) g tb D σ H :=
  for_any xs.length Pv h0 (fun i σ H' hi p => ⟨_, _, .of (ha _ _ _ p), List.getElem?_eq_getElem hi⟩) (fun σ H' p => ⟨_, .of (ha _ _ _ p), Nat.le_refl _⟩)
    (fun i x σ H1 H2 hi p ⟨e, hx⟩ => by subst e; exact hs i x σ _ (hx _ (.of (ha _ _ _ p))) p) hd
theorem for_L (Pv : Nat → L2.St → Hp → Prop) (ha : ∀ i σ H', Pv i σ H' → H' a = some (.lst xs)) (h0 : Pv 0 σ H)
    (hs : ∀ (i : Nat) x σ H', xs[i]? = some x → Pv i σ H' → g x σ H' fun σ2 H2 => tb { D with nx := Pv (i + 1), ct := Pv (i + 1), bk := D.nx } σ2 H2) (hd : ∀ σ H', Pv xs.length σ H' → D.nx σ H') : ForW (Itl K a) g tb D σ H :=
  for_any xs.length Pv h0 (fun i σ H' hi p => ⟨_, _, .of (ha _ _ _ p), List.getElem?_eq_getElem hi⟩) (fun σ H' p => ⟨_, .of (ha _ _ _ p), Nat.le_refl _⟩)
    (fun i x σ H1 H2 hi p ⟨e, hx⟩ => by subst e; exact hs i x σ _ (hx _ (.of (ha _ _ _ p))) p) hd
end
section
variable {K : PySem.W.Frag} {w : World} {H H' : Hp} {Q : VK} {a b : Addr} {xs ys : List V} {kvs : List (Key × V)}
theorem g_dict (h : H a = some (.dK kvs)) (q : New H (.dK kvs) fun p H' => Q (.ref p) H') : rDictG [.ref a] H Q := ⟨a, kvs, rfl, h, q⟩
theorem g_addTn (h1 : H a = some (.tup xs)) (h2 : H b = some (.tup ys)) (hl : xs.length + ys.length ≤ sizeLine) (ny : ys ≠ []) (q : ∀ c H', H' c = some (.tup (xs ++ ys)) → Same H H' → Q (.ref c) H') : rAddG K (.ref a) (.ref b) H Q := by
  refine .inr (.inr (.inr ⟨a, b, xs, ys, rfl, rfl, .of h1, .of h2, hl, fun e => ?_, fun _ e => absurd e ny, fun _ _ p H' _ e s => q p H' e s⟩))
  subst e
  exact q b H h2 (.refl _)
/-- a list and an empty one -/
theorem g_neNil (h : H a = some (.lst xs)) (h2 : H b = some (.lst [])) (q : Q (.bl (!xs.isEmpty)) H) : rNeG K (.ref a) (.ref b) H Q := by
  cases xs with
  | nil => exact .inr (.inr (.inr (.inl ⟨1, by decide, .inl ⟨a, b, [], [], rfl, rfl, .of h, .of h2, .nil⟩, q⟩)))
  | cons x xs => exact .inr (.inr (.inr (.inr ⟨a, b, _, _, rfl, rfl, .of h, .of h2, by simp, q⟩)))
theorem g_eqNil (h : H a = some (.lst xs)) (h2 : H b = some (.lst [])) (q : Q (.bl xs.isEmpty) H) : rEqG K (.ref a) (.ref b) H Q := by
  cases xs with
  | nil => exact .inr (.inr (.inr (.inl ⟨1, by decide, .inl ⟨a, b, [], [], rfl, rfl, .of h, .of h2, .nil⟩, q⟩)))
  | cons x xs => exact .inr (.inr (.inr (.inr ⟨a, b, _, _, rfl, rfl, .of h, .of h2, by simp, q⟩)))
def GTup (K : PySem.W.Frag) (a : Addr) (xs : List V) : Prop := ∀ H : Hp, SqT K H a xs
theorem g_inGT {k : Str} {r : Bool} (h : GTup K a xs) (f : xs.all flatV = true) (e : inV (.str k) xs = r) (q : Q (.bl r) H) : rInG K w false (.str k) (.ref a) H Q := .inl ⟨a, xs, rfl, .inr (h H), rfl, f, by rw [e]; exact q⟩
theorem g_neBig {x y : V} {n : Nat} (h : LkR K H (Lk K H n) x y) (hn : n ≤ 1000) (q : Q (.bl false) H) : rNeB K x y H Q := .inr ⟨n, hn, h, q⟩
theorem g_eqBig {x y : V} {n : Nat} (h : LkR K H (Lk K H n) x y) (hn : n ≤ 1000) (q : Q (.bl true) H) : rEqB K x y H Q := .inr ⟨n, hn, h, q⟩
theorem g_neBI {i j : Int} (q : Q (.bl (!decide (i = j))) H) : rNeB K (.int i) (.int j) H Q := .inl (g_neI q)
theorem g_neBS {i j : Str} (q : Q (.bl (!decide (i = j))) H) : rNeB K (.str i) (.str j) H Q := .inl (g_neS q)
theorem g_eqBI {i j : Int} (q : Q (.bl (decide (i = j))) H) : rEqB K (.int i) (.int j) H Q := .inl (g_eqI q)
theorem g_eqBS {i j : Str} (q : Q (.bl (decide (i = j))) H) : rEqB K (.str i) (.str j) H Q := .inl (g_eqS q)
theorem g_neBl {b : Bool} (q : Q (.bl false) H) : rNeG K (.bl b) (.bl b) H Q := g_neD (.bl _) (.bl _) rfl rfl (by rw [PySem.SeqAt.eqv_refl _ (SeqAt.canLay_of_shaped (d := .bool b) rfl)]; exact q)
theorem g_neB {x y : V} (h : rNeG K x y H Q) : rNeB K x y H Q := .inl h
theorem g_eqB {x y : V} (h : rEqG K x y H Q) : rEqB K x y H Q := .inl h
theorem ne_lt (h : H a = some (.lst xs)) (h' : H b = some (.tup ys)) : a ≠ b := by rintro rfl; rw [h] at h'; cases h'
theorem ne_ld (h : H a = some (.lst xs)) (h' : H b = some (.dK kvs)) : a ≠ b := by rintro rfl; rw [h] at h'; cases h'
theorem ne_td (h : H a = some (.tup xs)) (h' : H b = some (.dK kvs)) : a ≠ b := by rintro rfl; rw [h] at h'; cases h'
end
theorem valV_mem {kvs : List (Key × V)} : (kvs.map (·.1)).Nodup → ∀ p ∈ kvs, valV kvs p.1 = some p.2 := by
  induction kvs with
  | nil => intro _ p hp; cases hp
  | cons q r ih =>
    intro hn p hp
    rw [List.map_cons, List.nodup_cons] at hn
    rcases List.mem_cons.mp hp with rfl | hp
    · exact valV_pos rfl
    · have hne : ¬ q.1 = p.1 := fun e => hn.1 (by rw [e]; exact List.mem_map_of_mem hp)
      rw [valV_neg hne]
      exact ih hn.2 p hp
theorem nd_putAny {kvs : List (Key × V)} {k : Key} {v : V} (hn : (kvs.map (·.1)).Nodup) : ((putK kvs k v).map (·.1)).Nodup := by
  cases e : valV kvs k with
  | none =>
    rw [putK_new v e, List.map_append]
    refine List.nodup_append.mpr ⟨hn, by simp, fun x hx y hy exy => ?_⟩
    simp only [List.map_cons, List.map_nil, List.mem_singleton] at hy
    subst hy
    subst exy
    obtain ⟨p, hp, rfl⟩ := List.mem_map.mp hx
    rw [valV_mem hn p hp] at e
    cases e
  | some u =>
    unfold putK
    rw [valV_any, e]
    show ((kvs.map fun kv => if kv.1 = k then (kv.1, v) else kv).map (·.1)).Nodup
    rw [List.map_map]
    have : (kvs.map ((·.1) ∘ fun kv => if kv.1 = k then (kv.1, v) else kv)) = kvs.map (·.1) := by
      refine List.map_congr_left fun kv _ => ?_
      show (if kv.1 = k then (kv.1, v) else kv).1 = kv.1
      split <;> rfl
    rw [this]
    exact hn
/-- of a comprehension's items just one passes its test -/
theorem lc_one {K : PySem.W.Frag} {H1 : Hp} {g : TG} {tt : TT} {te : TE} {vs : List Nat} {σ : L2.St} {a : Addr} {xs : List V} {Qd : Addr → Hp → Prop} (ea : H1 a = some (.tup xs)) (hl : xs.length ≤ 100000) (j : Nat) (hj : j < xs.length) (F : V → Hp → Prop) (hF : ∀ y H H', Tk H H' → F y H → F y H')
    (hs : ∀ (i : Nat) x H' (Na : V → Hp → Prop) (Nb : Hp → Prop), xs[i]? = some x → Same H1 H' → (∀ y H4, i = j → Same H' H4 → F y H4 → Na y H4) → (∀ H4, i ≠ j → Same H' H4 → Nb H4) →
      g x (wipe σ vs) H' fun σ2 H2 => wipe σ2 vs = wipe σ vs ∧ tt σ2 H2 fun b H3 => if b = true then te σ2 H3 Na else Nb H3)
    (hd : ∀ D y H', Fr H1 D → H' D = some (.lst [y]) → F y H' → Same H1 H' → Qd D H') : LcR (Itt K a) g tt te vs σ H1 Qd := by
  intro D hD
  refine lc_any xs.length (fun i acc H' => (i ≤ j → acc = []) ∧ (j < i → ∃ y, acc = [y] ∧ F y H') ∧ Same H1 H') hD (fun H' _ s => ⟨fun _ => rfl, fun h => absurd h (by omega), s⟩)
    (fun i acc H' hi ⟨_, _, s⟩ => ⟨_, _, .of (s _ _ ea), List.getElem?_eq_getElem hi⟩) (fun acc H' ⟨_, _, s⟩ => ⟨_, .of (s _ _ ea), Nat.le_refl _⟩) ?_ ?_
  · rintro i x acc H' _ hi hla ⟨h1, h2, s2⟩ hd2 ⟨rfl, hx⟩
    refine hs i x _ _ _ (hx _ (.of (s2 _ _ ea))) s2 (fun y H4 e s4 f4 => ?_) fun H4 ne s4 => ?_
    · subst e
      have := h1 (Nat.le_refl _)
      subst this
      refine lc_step (s4 _ _ hd2) hla (by show _ < 16777216; omega) fun H5 e5 c5 => ?_
      exact ⟨fun h => absurd h (by omega), fun _ => ⟨y, rfl, hF _ _ _ (c5.tkl (s4 _ _ hd2)) f4⟩, Same.chg (s2.trans s4) hD c5⟩
    · exact ⟨acc, s4 _ _ hd2, by omega, fun h => h1 (by omega), fun h => (h2 (by omega)).imp fun y ⟨e, f⟩ => ⟨e, hF _ _ _ (Same.tk s4) f⟩, s2.trans s4⟩
  · rintro acc H' hd2 ⟨_, h2, s⟩
    obtain ⟨y, rfl, f⟩ := h2 hj
    exact hd D y H' hD hd2 f s

/-! ### zip of a list and a tuple, any of both -/
inductive Kd | lst | tup
/-- an iterator at p, at its k-th item of the object at l -/
def Feed (κ : Kd) (h : Heap) (p l : Addr) (k : Nat) (xs : Array Value) : Prop :=
  match κ with
  | .lst => h.IsListIter p l k ∧ h.IsList l xs
  | .tup => h.IsTupleIter p l k ∧ h.IsTuple l xs
theorem Feed.to {κ : Kd} {h h' : Heap} {p l : Addr} {k : Nat} {xs : Array Value} (f : Feed κ h p l k xs) (e1 : ∀ o, h.get? p = some o → h'.get? p = some o) (e2 : ∀ o, h.get? l = some o → h'.get? l = some o) : Feed κ h' p l k xs := by
  cases κ with
  | lst => exact ⟨f.1.at e1, f.2.at e2⟩
  | tup => exact ⟨f.1.at e1, f.2.at e2⟩
theorem Feed.lt {κ : Kd} {h : Heap} {p l : Addr} {k : Nat} {xs : Array Value} (f : Feed κ h p l k xs) : p < h.objs.size ∧ l < h.objs.size := by
  cases κ with
  | lst => obtain ⟨⟨o, e, _⟩, ⟨o2, e2, _⟩⟩ := f; exact ⟨Heap.lt_size e, Heap.lt_size e2⟩
  | tup => obtain ⟨⟨o, e, _⟩, ⟨o2, e2, _⟩⟩ := f; exact ⟨Heap.lt_size e, Heap.lt_size e2⟩
theorem Feed.obj {κ : Kd} {h : Heap} {p l : Addr} {k : Nat} {xs : Array Value} (f : Feed κ h p l k xs) : ∃ o, h.get? p = some o ∧ ∀ v, o.data ≠ .cell v := by
  cases κ with
  | lst => obtain ⟨⟨o, e, _, d⟩, _⟩ := f; exact ⟨o, e, fun v q => by rw [d] at q; cases q⟩
  | tup => obtain ⟨⟨o, e, _, d⟩, _⟩ := f; exact ⟨o, e, fun v q => by rw [d] at q; cases q⟩
section
variable {prog : Program} {w : World} {A : Around} {E : Value → Shared → Prop} {s : Shared}
theorem feed_next {κ : Kd} {p l : Addr} {k : Nat} {xs : Array Value} {x : Value} {Q : Value → Shared → Prop} (f : Feed κ s.heap p l k xs) (n : l ≠ p) (e : xs[k]? = some x)
    (q : ∀ h', Feed κ h' p l (k + 1) xs → Heap.SameBut p s.heap h' → Q x { s with heap := h' }) : wpAny (model prog w) A (Builtin.SmallTypes.nextOf (.ref p)) Q E s := by
  cases κ with
  | lst => exact wpAny_nextOf_list_item f.1 f.2 e fun h' a b => q h' ⟨a, f.2.at fun o z => b.extBut _ _ n z⟩ b
  | tup => exact RZ.nextOf_tuple_item f.1 f.2 e fun h' a b => q h' ⟨a, f.2.at fun o z => b.extBut _ _ n z⟩ b
theorem feed_over {κ : Kd} {p l : Addr} {k : Nat} {xs : Array Value} {Q : Value → Shared → Prop} (calm : A.handled = none) (f : Feed κ s.heap p l k xs) (e : xs[k]? = none)
    (q : ∀ h' x, Heap.ExtBut p s.heap h' → (∃ o, h'.get? x = some o ∧ o.cls = .type "StopIteration") → E (.ref x) { s with heap := h' }) : wpAny (model prog w) A (Builtin.SmallTypes.nextOf (.ref p)) Q E s := by
  cases κ with
  | lst => exact wpAny_nextOf_list_end calm f.1 f.2 e q
  | tup => exact RZ.nextOf_tuple_end calm f.1 f.2 e q
end
/-- all that a zip at z is made of; t, b: what it tells of the pair that it gave out -/
structure Zp (κ κ' : Kd) (z I O p p' l l' : Addr) (xs ys : Array Value) (k k' : Nat) (t : Value) (b : Bool) (h : Heap) : Prop where
  zip : h.get? z = some { cls := .type "zip", dict := none, data := .fields #[t, .bool b, .bool false, .ref I, .ref O], slots := #[] }
  ins : IsPair h I (.ref p) (.ref p')
  out : ∃ x y, IsPair h O x y
  fst : Feed κ h p l k xs
  snd : Feed κ' h p' l' k' ys
section
variable {κ κ' : Kd} {z I O p p' l l' : Addr} {xs ys : Array Value} {k k' : Nat} {t t' : Value} {b b' : Bool} {h h' : Heap}
theorem Zp.setZ (d : ZipApart z I O p p' l l') (m : Zp κ κ' z I O p p' l l' xs ys k k' t b h) (e : h'.get? z = some { cls := .type "zip", dict := none, data := .fields #[t', .bool b', .bool false, .ref I, .ref O], slots := #[] }) (s : Heap.SameBut z h h') :
    Zp κ κ' z I O p p' l l' xs ys k k' t' b' h' :=
  ⟨e, s.extBut _ _ d.TIz m.ins, m.out.imp fun x ⟨y, g⟩ => ⟨y, s.extBut _ _ d.TOz g⟩, m.fst.to (fun o => s.extBut _ o d.i1z) (fun o => s.extBut _ o d.l1z), m.snd.to (fun o => s.extBut _ o d.i2z) (fun o => s.extBut _ o d.l2z)⟩
theorem Zp.setF {j : Nat} (d : ZipApart z I O p p' l l') (m : Zp κ κ' z I O p p' l l' xs ys k k' t b h) (e : Feed κ h' p l j xs) (s : Heap.SameBut p h h') : Zp κ κ' z I O p p' l l' xs ys j k' t b h' :=
  ⟨s.extBut _ _ d.i1z.symm m.zip, s.extBut _ _ d.TIi1 m.ins, m.out.imp fun x ⟨y, g⟩ => ⟨y, s.extBut _ _ d.TOi1 g⟩, e, m.snd.to (fun o => s.extBut _ o d.i12.symm) (fun o => s.extBut _ o d.l2i1)⟩
theorem Zp.setS {j : Nat} (d : ZipApart z I O p p' l l') (m : Zp κ κ' z I O p p' l l' xs ys k k' t b h) (e : Feed κ' h' p' l' j ys) (s : Heap.SameBut p' h h') : Zp κ κ' z I O p p' l l' xs ys k j t b h' :=
  ⟨s.extBut _ _ d.i2z.symm m.zip, s.extBut _ _ d.TIi2 m.ins, m.out.imp fun x ⟨y, g⟩ => ⟨y, s.extBut _ _ d.TOi2 g⟩, m.fst.to (fun o => s.extBut _ o d.i12) (fun o => s.extBut _ o d.l1i2), e⟩
theorem Zp.setO {x y : Value} (d : ZipApart z I O p p' l l') (m : Zp κ κ' z I O p p' l l' xs ys k k' t b h) (e : IsPair h' O x y) (s : Heap.SameBut O h h') : Zp κ κ' z I O p p' l l' xs ys k k' t b h' :=
  ⟨s.extBut _ _ d.TOz.symm m.zip, s.extBut _ _ d.TITO m.ins, ⟨x, y, e⟩, m.fst.to (fun o => s.extBut _ o d.TOi1.symm) (fun o => s.extBut _ o d.l1TO), m.snd.to (fun o => s.extBut _ o d.TOi2.symm) (fun o => s.extBut _ o d.l2TO)⟩
theorem Zp.more (m : Zp κ κ' z I O p p' l l' xs ys k k' t b h) (s : ∀ c o, h.get? c = some o → h'.get? c = some o) : Zp κ κ' z I O p p' l l' xs ys k k' t b h' :=
  ⟨s _ _ m.zip, s _ _ m.ins, m.out.imp fun x ⟨y, g⟩ => ⟨y, s _ _ g⟩, m.fst.to (fun o => s _ o) (fun o => s _ o), m.snd.to (fun o => s _ o) (fun o => s _ o)⟩
theorem Zp.ty {m : Zp κ κ' z I O p p' l l' xs ys k k' t b h} : h.get? z ≠ none := fun e => by rw [m.zip] at e; cases e
end
/-- all but those of c stay -/
def But (c : List Addr) (h h' : Heap) : Prop := ∀ a o, a ∉ c → h.get? a = some o → h'.get? a = some o
theorem But.of {a : Addr} {c : List Addr} {h h' : Heap} (s : Heap.SameBut a h h') (m : a ∈ c) : But c h h' := fun x o n e => s.extBut _ _ (fun q => n (q ▸ m)) e
theorem But.trans {c : List Addr} {h h1 h' : Heap} (a : But c h h1) (b : But c h1 h') : But c h h' := fun x o n e => b x o n (a x o n e)
section
variable {prog : Program} {w : World} {A : Around} {E : Value → Shared → Prop} {s : Shared} {κ κ' : Kd} {z I O p p' l l' : Addr} {xs ys : Array Value} {k k' : Nat}
theorem zp_item {x y : Value} {Q : Value → Shared → Prop} (d : ZipApart z I O p p' l l') (m : Zp κ κ' z I O p p' l l' xs ys k k' .none false s.heap) (ex : xs[k]? = some x) (ey : ys[k']? = some y)
    (q : ∀ h', Zp κ κ' z I O p p' l l' xs ys (k + 1) (k' + 1) (rawInt s.heap.objs.size) false h' → IsPair h' s.heap.objs.size x y → h'.objs.size = s.heap.objs.size + 1 → But [z, O, p, p'] s.heap h' → Q (.ref s.heap.objs.size) { s with heap := h' }) :
    wpAny (model prog w) A (Builtin.«zip.__next__» ⟨[.ref z], []⟩) (fun r s' => ∃ v, r = .done (.ret v) ∧ Q v s') E s := by
  obtain ⟨x0, y0, go⟩ := m.out
  show wpAny _ _ (field (.ref z) 2 >>= _) _ _ _
  apply wpAny_bind
  apply wpAny_field m.zip rfl (x := .bool false) rfl
  show wpAny _ _ (field (.ref z) 3 >>= _) _ _ _
  apply wpAny_bind
  apply wpAny_field m.zip rfl (x := .ref I) rfl
  apply wpAny_bind
  apply wpAny_seqItems m.ins rfl
  show wpAny _ _ (Builtin.SmallTypes.ownedTupleIsFree (.ref z) >>= _) _ _ _
  apply wpAny_bind
  unfold Builtin.SmallTypes.ownedTupleIsFree
  apply wpAny_bind
  apply wpAny_field m.zip rfl (x := .none) rfl
  apply wpAny_pure
  simp only [if_true]
  apply wpAny_bind
  apply wpAny_rule
  apply wpAny_bind
  apply wpAny_field m.zip rfl (x := .ref O) rfl
  apply wpAny_bind
  refine wpAny_setField_rec m.zip (by simp) fun g1 z1 s1 => ?_
  have m1 := m.setZ (t' := .ellipsis) (b' := false) d z1 s1
  have u1 : But [z, O, p, p'] s.heap g1 := .of s1 (by simp)
  apply wpAny_bind
  simp only [List.zipIdx_cons, List.zipIdx_nil, List.forIn_cons, List.forIn_nil]
  apply wpAny_bind
  apply wpAny_bind
  apply wpAny_onRaise
  show wpAny _ _ (Builtin.SmallTypes.nextOf (.ref p) >>= _) _ _ _
  apply wpAny_bind
  refine feed_next m1.fst d.l1i1 ex fun g2 f2 s2 => wpAny_pure ?_
  have m2 := m1.setF d f2 s2
  have u2 : But [z, O, p, p'] s.heap g2 := u1.trans (.of s2 (by simp))
  have go2 : IsPair g2 O x0 y0 := s2.extBut _ _ d.TOi1 (s1.extBut _ _ d.TOz go)
  apply wpAny_bind
  apply wpAny_seqItems go2 rfl
  apply wpAny_bind
  refine wpAny_updateSeq_pair go2 fun g3 o3 s3 => ?_
  have go3 : IsPair g3 O x y0 := o3
  have m3 := m2.setO d go3 s3
  have u3 : But [z, O, p, p'] s.heap g3 := u2.trans (.of s3 (by simp))
  apply wpAny_bind
  apply wpAny_letGo
  apply wpAny_pure
  apply wpAny_bind
  apply wpAny_bind
  apply wpAny_onRaise
  show wpAny _ _ (Builtin.SmallTypes.nextOf (.ref p') >>= _) _ _ _
  apply wpAny_bind
  refine feed_next m3.snd d.l2i2 ey fun g4 f4 s4 => wpAny_pure ?_
  have m4 := m3.setS d f4 s4
  have u4 : But [z, O, p, p'] s.heap g4 := u3.trans (.of s4 (by simp))
  have go4 : IsPair g4 O x y0 := s4.extBut _ _ d.TOi2 go3
  apply wpAny_bind
  apply wpAny_seqItems go4 rfl
  apply wpAny_bind
  refine wpAny_updateSeq_pair go4 fun g5 o5 s5 => ?_
  have go5 : IsPair g5 O x y := o5
  have m5 := m4.setO d go5 s5
  have u5 : But [z, O, p, p'] s.heap g5 := u4.trans (.of s5 (by simp))
  apply wpAny_bind
  apply wpAny_letGo
  apply wpAny_pure
  apply wpAny_pure
  apply wpAny_bind
  apply wpAny_seqItems go5 rfl
  apply wpAny_bind
  refine wpAny_newTuple ?_
  have sz : g5.objs.size = s.heap.objs.size := by rw [s5.1, s4.1, s3.1, s2.1, s1.1]
  have zl : z < g5.objs.size := Heap.lt_size m5.zip
  show wpAny _ _ (Builtin.SmallTypes.ownedTupleHandOut (.ref z) (.ref g5.objs.size) >>= _) _ _ _
  apply wpAny_bind
  unfold Builtin.SmallTypes.ownedTupleHandOut
  have m6 : Zp κ κ' z I O p p' l l' xs ys (k + 1) (k' + 1) .ellipsis false (g5.push { cls := .type "tuple", data := .seq #[x, y] }) := m5.more fun c o e => Heap.get?_push_of_some _ e
  have t6 : IsPair (g5.push { cls := .type "tuple", data := .seq #[x, y] }) g5.objs.size x y := Heap.get?_push_size _ rfl
  apply wpAny_bind
  refine wpAny_setField_rec m6.zip (by simp) fun g7 z7 s7 => ?_
  have m7 := m6.setZ (t' := rawInt g5.objs.size) (b' := false) d z7 s7
  refine wpAny_setField_rec m7.zip (by simp) fun g8 z8 s8 => ?_
  have m8 := m7.setZ (t' := rawInt g5.objs.size) (b' := false) d z8 s8
  have t8 : IsPair g8 g5.objs.size x y := s8.extBut _ _ (Nat.ne_of_gt zl) (s7.extBut _ _ (Nat.ne_of_gt zl) t6)
  have sz8 : g8.objs.size = g5.objs.size + 1 := by rw [s8.1, s7.1, Heap.size_push]
  have u8 : But [z, O, p, p'] s.heap g8 := fun c o n e => (But.of s8 (by simp)) c o n ((But.of s7 (by simp)) c o n (Heap.get?_push_of_some _ (u5 c o n e)))
  rw [sz] at m8 t8 sz8
  refine wpAny_pure ⟨_, rfl, ?_⟩
  show Q (.ref g5.objs.size) _
  rw [sz]
  exact q g8 m8 t8 sz8 u8
theorem zp_over {Q : Fin → Shared → Prop} (calm : A.handled = none) (d : ZipApart z I O p p' l l') (m : Zp κ κ' z I O p p' l l' xs ys k k' .none false s.heap) (e : xs[k]? = none ∨ ys[k']? = none)
    (q : ∀ h' x, But [z, O, p, p'] s.heap h' → (∃ o, h'.get? x = some o ∧ o.cls = .type "StopIteration") → E (.ref x) { s with heap := h' }) : wpAny (model prog w) A (Builtin.«zip.__next__» ⟨[.ref z], []⟩) Q E s := by
  obtain ⟨x0, y0, go⟩ := m.out
  show wpAny _ _ (field (.ref z) 2 >>= _) _ _ _
  apply wpAny_bind
  apply wpAny_field m.zip rfl (x := .bool false) rfl
  show wpAny _ _ (field (.ref z) 3 >>= _) _ _ _
  apply wpAny_bind
  apply wpAny_field m.zip rfl (x := .ref I) rfl
  apply wpAny_bind
  apply wpAny_seqItems m.ins rfl
  show wpAny _ _ (Builtin.SmallTypes.ownedTupleIsFree (.ref z) >>= _) _ _ _
  apply wpAny_bind
  unfold Builtin.SmallTypes.ownedTupleIsFree
  apply wpAny_bind
  apply wpAny_field m.zip rfl (x := .none) rfl
  apply wpAny_pure
  simp only [if_true]
  apply wpAny_bind
  apply wpAny_rule
  apply wpAny_bind
  apply wpAny_field m.zip rfl (x := .ref O) rfl
  apply wpAny_bind
  refine wpAny_setField_rec m.zip (by simp) fun g1 z1 s1 => ?_
  have m1 := m.setZ (t' := .ellipsis) (b' := false) d z1 s1
  have u1 : But [z, O, p, p'] s.heap g1 := .of s1 (by simp)
  apply wpAny_bind
  simp only [List.zipIdx_cons, List.zipIdx_nil, List.forIn_cons, List.forIn_nil]
  apply wpAny_bind
  apply wpAny_bind
  apply wpAny_onRaise
  show wpAny _ _ (Builtin.SmallTypes.nextOf (.ref p) >>= _) _ _ _
  cases ex : xs[k]? with
  | none =>
    apply wpAny_bind
    refine feed_over calm m1.fst ex fun g2 a s2 st => ?_
    have zz := s2 _ _ d.i1z.symm m1.zip
    obtain ⟨oa, ea, ca⟩ := st
    have na : a ≠ z := fun h => by rw [h, zz] at ea; cases ea; simp at ca
    refine wpAny_setField_rec zz (by simp) fun g3 _ s3 => q g3 a ?_ ⟨oa, s3.extBut _ _ na ea, ca⟩
    exact u1.trans (But.trans (fun c o n e => s2 _ _ (fun h => n (by simp [h])) e) (.of s3 (by simp)))
  | some x =>
    have ey : ys[k']? = none := e.resolve_left (by rw [ex]; exact fun h => nomatch h)
    apply wpAny_bind
    refine feed_next m1.fst d.l1i1 ex fun g2 f2 s2 => wpAny_pure ?_
    have m2 := m1.setF d f2 s2
    have u2 : But [z, O, p, p'] s.heap g2 := u1.trans (.of s2 (by simp))
    have go2 : IsPair g2 O x0 y0 := s2.extBut _ _ d.TOi1 (s1.extBut _ _ d.TOz go)
    apply wpAny_bind
    apply wpAny_seqItems go2 rfl
    apply wpAny_bind
    refine wpAny_updateSeq_pair go2 fun g3 o3 s3 => ?_
    have m3 := m2.setO (x := x) (y := y0) d o3 s3
    have u3 : But [z, O, p, p'] s.heap g3 := u2.trans (.of s3 (by simp))
    apply wpAny_bind
    apply wpAny_letGo
    apply wpAny_pure
    apply wpAny_bind
    apply wpAny_bind
    apply wpAny_onRaise
    show wpAny _ _ (Builtin.SmallTypes.nextOf (.ref p') >>= _) _ _ _
    apply wpAny_bind
    refine feed_over calm m3.snd ey fun g4 a s4 st => ?_
    have zz := s4 _ _ d.i2z.symm m3.zip
    obtain ⟨oa, ea, ca⟩ := st
    have na : a ≠ z := fun h => by rw [h, zz] at ea; cases ea; simp at ca
    refine wpAny_setField_rec zz (by simp) fun g5 _ s5 => q g5 a ?_ ⟨oa, s5.extBut _ _ na ea, ca⟩
    exact u3.trans (But.trans (fun c o n e => s4 _ _ (fun h => n (by simp [h])) e) (.of s5 (by simp)))
theorem zp_item_out {T : Addr} {f : Bool} {o : Obj} {x y : Value} {Q : Value → Shared → Prop} (d : ZipApart z I O p p' l l') (m : Zp κ κ' z I O p p' l l' xs ys k k' (rawInt T) f s.heap) (eT : s.heap.get? T = some o) (ex : xs[k]? = some x) (ey : ys[k']? = some y)
    (q : ∀ h', Zp κ κ' z I O p p' l l' xs ys (k + 1) (k' + 1) (rawInt T) true h' → IsPair h' s.heap.objs.size x y → h'.objs.size = s.heap.objs.size + 1 → But [z, p, p'] s.heap h' → Q (.ref s.heap.objs.size) { s with heap := h' }) :
    wpAny (model prog w) A (Builtin.«zip.__next__» ⟨[.ref z], []⟩) (fun r s' => ∃ v, r = .done (.ret v) ∧ Q v s') E s := by
  show wpAny _ _ (field (.ref z) 2 >>= _) _ _ _
  apply wpAny_bind
  apply wpAny_field m.zip rfl (x := .bool false) rfl
  show wpAny _ _ (field (.ref z) 3 >>= _) _ _ _
  apply wpAny_bind
  apply wpAny_field m.zip rfl (x := .ref I) rfl
  apply wpAny_bind
  apply wpAny_seqItems m.ins rfl
  show wpAny _ _ (Builtin.SmallTypes.ownedTupleIsFree (.ref z) >>= _) _ _ _
  apply wpAny_bind
  refine wpAny_tupleHeld_zip m.zip eT fun g1 z1 s1 => ?_
  have m1 := m.setZ (t' := rawInt T) (b' := true) d z1 s1
  have u1 : But [z, p, p'] s.heap g1 := .of s1 (by simp)
  simp only [Bool.false_eq_true, if_false]
  apply wpAny_bind
  rw [← Array.forIn_toList]
  simp only [List.forIn_cons, List.forIn_nil]
  apply wpAny_bind
  apply wpAny_bind
  apply wpAny_holding
  show wpAny _ _ (Builtin.SmallTypes.nextOf (.ref p) >>= _) _ _ _
  apply wpAny_bind
  refine feed_next (s := { s with heap := g1 }) m1.fst d.l1i1 ex fun g2 f2 s2 => wpAny_pure ?_
  have m2 := m1.setF d f2 s2
  have u2 : But [z, p, p'] s.heap g2 := u1.trans (.of s2 (by simp))
  apply wpAny_pure
  apply wpAny_bind
  apply wpAny_bind
  apply wpAny_holding
  show wpAny _ _ (Builtin.SmallTypes.nextOf (.ref p') >>= _) _ _ _
  apply wpAny_bind
  refine feed_next (s := { s with heap := g2 }) m2.snd d.l2i2 ey fun g3 f3 s3 => wpAny_pure ?_
  have m3 := m2.setS d f3 s3
  have u3 : But [z, p, p'] s.heap g3 := u2.trans (.of s3 (by simp))
  apply wpAny_pure
  apply wpAny_pure
  show wpAny _ _ (newTuple [x, y] >>= _) _ _ _
  apply wpAny_bind
  refine wpAny_newTuple ?_
  have sz : g3.objs.size = s.heap.objs.size := by rw [s3.1, s2.1, s1.1]
  have m4 : Zp κ κ' z I O p p' l l' xs ys (k + 1) (k' + 1) (rawInt T) true (g3.push { cls := .type "tuple", data := .seq #[x, y] }) := m3.more fun c o e => Heap.get?_push_of_some _ e
  have t4 : IsPair (g3.push { cls := .type "tuple", data := .seq #[x, y] }) g3.objs.size x y := Heap.get?_push_size _ rfl
  have z4 : (g3.push { cls := .type "tuple", data := .seq #[x, y] }).objs.size = g3.objs.size + 1 := Heap.size_push ..
  refine wpAny_pure ⟨_, rfl, ?_⟩
  show Q (.ref g3.objs.size) _
  rw [sz] at t4 z4 ⊢
  exact q _ m4 t4 z4 fun c o n e => Heap.get?_push_of_some _ (u3 c o n e)
theorem zp_over_out {T : Addr} {f : Bool} {o : Obj} {Q : Fin → Shared → Prop} (calm : A.handled = none) (d : ZipApart z I O p p' l l') (m : Zp κ κ' z I O p p' l l' xs ys k k' (rawInt T) f s.heap) (eT : s.heap.get? T = some o) (e : xs[k]? = none ∨ ys[k']? = none)
    (q : ∀ h' x, But [z, p, p'] s.heap h' → (∃ o, h'.get? x = some o ∧ o.cls = .type "StopIteration") → E (.ref x) { s with heap := h' }) : wpAny (model prog w) A (Builtin.«zip.__next__» ⟨[.ref z], []⟩) Q E s := by
  show wpAny _ _ (field (.ref z) 2 >>= _) _ _ _
  apply wpAny_bind
  apply wpAny_field m.zip rfl (x := .bool false) rfl
  show wpAny _ _ (field (.ref z) 3 >>= _) _ _ _
  apply wpAny_bind
  apply wpAny_field m.zip rfl (x := .ref I) rfl
  apply wpAny_bind
  apply wpAny_seqItems m.ins rfl
  show wpAny _ _ (Builtin.SmallTypes.ownedTupleIsFree (.ref z) >>= _) _ _ _
  apply wpAny_bind
  refine wpAny_tupleHeld_zip m.zip eT fun g1 z1 s1 => ?_
  have m1 := m.setZ (t' := rawInt T) (b' := true) d z1 s1
  have u1 : But [z, p, p'] s.heap g1 := .of s1 (by simp)
  simp only [Bool.false_eq_true, if_false]
  apply wpAny_bind
  rw [← Array.forIn_toList]
  simp only [List.forIn_cons, List.forIn_nil]
  apply wpAny_bind
  apply wpAny_bind
  apply wpAny_holding
  show wpAny _ _ (Builtin.SmallTypes.nextOf (.ref p) >>= _) _ _ _
  cases ex : xs[k]? with
  | none =>
    apply wpAny_bind
    exact feed_over (s := { s with heap := g1 }) calm m1.fst ex fun g2 a s2 st => q g2 a (u1.trans fun c o n e => s2 _ _ (fun h => n (by simp [h])) e) st
  | some x =>
    have ey : ys[k']? = none := e.resolve_left (by rw [ex]; exact fun h => nomatch h)
    apply wpAny_bind
    refine feed_next (s := { s with heap := g1 }) m1.fst d.l1i1 ex fun g2 f2 s2 => wpAny_pure ?_
    have m2 := m1.setF d f2 s2
    have u2 : But [z, p, p'] s.heap g2 := u1.trans (.of s2 (by simp))
    apply wpAny_pure
    apply wpAny_bind
    apply wpAny_bind
    apply wpAny_holding
    show wpAny _ _ (Builtin.SmallTypes.nextOf (.ref p') >>= _) _ _ _
    apply wpAny_bind
    exact feed_over (s := { s with heap := g2 }) calm m2.snd ey fun g3 a s3 st => q g3 a (u2.trans fun c o n e => s3 _ _ (fun h => n (by simp [h])) e) st
end
section
variable {prog : Program} {w : World} {A : Around} {E : Value → Shared → Prop} {s : Shared} {κ κ' : Kd} {z I O p p' l l' : Addr} {xs ys : Array Value} {k k' : Nat} {T : Addr} {f : Bool} {o : Obj} {x y : Value} {Q : Option Value → Shared → Prop}
theorem zp_is {t : Value} {b : Bool} (m : Zp κ κ' z I O p p' l l' xs ys k k' t b s.heap) : s.TypeIs (.ref z) "zip" := ⟨_, m.zip, rfl⟩
theorem zp_next {t : Value} {b : Bool} (m : Zp κ κ' z I O p p' l l' xs ys k k' t b s.heap) {R : Value → Shared → Prop} (go : wpAny (model prog w) A.in1 (Builtin.«zip.__next__» ⟨[.ref z], []⟩) (fun r s' => ∃ v, r = .done (.ret v) ∧ Q (some v) s') R s)
    (ov : ∀ x s', R x s' → ∃ a, x = .ref a ∧ (∃ o, s'.heap.get? a = some o ∧ o.cls = .type "StopIteration") ∧ Q none s') : wpAny (model prog w) A (pyNext (.ref z)) Q E s := by
  unfold pyNext
  apply wpAny_bind
  apply wpAny_attempt
  refine wpAny_callSpecial?_slot (name := Str.ofString "__next__") (zp_is m) F.slot_zip_next ?_
  refine wpAny_call_entry F.slot_zip_next (zp_is m) F.entry_zip_next ?_ (F.args_zip_next_1 _)
  refine wpAny_mono go (fun r s' hr => ?_) fun x s' hx => ?_
  · obtain ⟨v, e, hq⟩ := hr
    exact ⟨v, e, wpAny_pure hq⟩
  · obtain ⟨a, rfl, ⟨oa, ea, ca⟩, hq⟩ := ov x s' hx
    apply wpAny_bind
    refine wpAny_isInstance (v := .ref a) (s := s') (T := "StopIteration") (b := true) ⟨oa, ea, ca⟩ isSubtype_stop ?_
    exact wpAny_pure hq
theorem py_item (d : ZipApart z I O p p' l l') (m : Zp κ κ' z I O p p' l l' xs ys k k' .none false s.heap) (ex : xs[k]? = some x) (ey : ys[k']? = some y)
    (q : ∀ h', Zp κ κ' z I O p p' l l' xs ys (k + 1) (k' + 1) (rawInt s.heap.objs.size) false h' → IsPair h' s.heap.objs.size x y → h'.objs.size = s.heap.objs.size + 1 → But [z, O, p, p'] s.heap h' → Q (some (.ref s.heap.objs.size)) { s with heap := h' }) :
    wpAny (model prog w) A (pyNext (.ref z)) Q E s :=
  zp_next m (R := fun _ _ => False) (zp_item d m ex ey (Q := fun v s' => Q (some v) s') q) fun _ _ h => h.elim
theorem py_over (calm : A.handled = none) (d : ZipApart z I O p p' l l') (m : Zp κ κ' z I O p p' l l' xs ys k k' .none false s.heap) (e : xs[k]? = none ∨ ys[k']? = none)
    (q : ∀ h', But [z, O, p, p'] s.heap h' → Q none { s with heap := h' }) : wpAny (model prog w) A (pyNext (.ref z)) Q E s :=
  zp_next m (R := fun x s' => ∃ a h', x = .ref a ∧ s' = { s with heap := h' } ∧ But [z, O, p, p'] s.heap h' ∧ ∃ o, h'.get? a = some o ∧ o.cls = .type "StopIteration")
    (zp_over (A := A.in1) calm d m e fun h' a u st => ⟨a, h', rfl, rfl, u, st⟩) fun x s' ⟨a, h', e1, e2, u, st⟩ => by subst e2; exact ⟨a, e1, st, q h' u⟩
theorem py_item_out (d : ZipApart z I O p p' l l') (m : Zp κ κ' z I O p p' l l' xs ys k k' (rawInt T) f s.heap) (eT : s.heap.get? T = some o) (ex : xs[k]? = some x) (ey : ys[k']? = some y)
    (q : ∀ h', Zp κ κ' z I O p p' l l' xs ys (k + 1) (k' + 1) (rawInt T) true h' → IsPair h' s.heap.objs.size x y → h'.objs.size = s.heap.objs.size + 1 → But [z, p, p'] s.heap h' → Q (some (.ref s.heap.objs.size)) { s with heap := h' }) :
    wpAny (model prog w) A (pyNext (.ref z)) Q E s :=
  zp_next m (R := fun _ _ => False) (zp_item_out d m eT ex ey (Q := fun v s' => Q (some v) s') q) fun _ _ h => h.elim
theorem py_over_out (calm : A.handled = none) (d : ZipApart z I O p p' l l') (m : Zp κ κ' z I O p p' l l' xs ys k k' (rawInt T) f s.heap) (eT : s.heap.get? T = some o) (e : xs[k]? = none ∨ ys[k']? = none)
    (q : ∀ h', But [z, p, p'] s.heap h' → Q none { s with heap := h' }) : wpAny (model prog w) A (pyNext (.ref z)) Q E s :=
  zp_next m (R := fun x s' => ∃ a h', x = .ref a ∧ s' = { s with heap := h' } ∧ But [z, p, p'] s.heap h' ∧ ∃ o, h'.get? a = some o ∧ o.cls = .type "StopIteration")
    (zp_over_out (A := A.in1) calm d m eT e fun h' a u st => ⟨a, h', rfl, rfl, u, st⟩) fun x s' ⟨a, h', e1, e2, u, st⟩ => by subst e2; exact ⟨a, e1, st, q h' u⟩
end
/-! making one -/
def Sq (κ : Kd) (h : Heap) (l : Addr) (xs : Array Value) : Prop :=
  match κ with
  | .lst => h.IsList l xs
  | .tup => h.IsTuple l xs
abbrev itO (n : String) (l : Addr) : Obj := { cls := .type n, data := .fields #[.ref l, .int 0 0] }
abbrev zh5 (n n' : String) (h : Heap) (l l' : Addr) : Heap :=
  ((((h.push (itO n l)).push (itO n' l')).push { cls := .type "tuple", data := .seq #[.ref h.objs.size, .ref (h.push (itO n l)).objs.size] }).push { cls := .type "tuple", data := .seq #[.none, .none] }).push
    { cls := .type "zip", data := .fields #[.none, .bool false, .bool false, .ref ((h.push (itO n l)).push (itO n' l')).objs.size, .ref (((h.push (itO n l)).push (itO n' l')).push { cls := .type "tuple", data := .seq #[.ref h.objs.size, .ref (h.push (itO n l)).objs.size] }).objs.size] }
abbrev zhN (n n' : String) (h : Heap) (l l' : Addr) : Nat :=
  ((((h.push (itO n l)).push (itO n' l')).push { cls := .type "tuple", data := .seq #[.ref h.objs.size, .ref (h.push (itO n l)).objs.size] }).push { cls := .type "tuple", data := .seq #[.none, .none] }).objs.size
theorem zm_tl (l l' : Addr) (xs ys : Array Value) :
    Meets (Builtin.«zip.__new__» ⟨[.type "zip", .ref l, .ref l'], []⟩) (fun _ R s => s.heap.IsTuple l xs ∧ s.heap.IsList l' ys ∧ R (.ok (.ret (.ref (zhN "tuple_iterator" "list_iterator" s.heap l l')))) { s with heap := zh5 "tuple_iterator" "list_iterator" s.heap l l' }) :=
  .of_wp fun prog w A R s h => by
    obtain ⟨hh, gg, dd, tt, oo⟩ := s
    obtain ⟨a1, a2, h⟩ := h
    have sub := sub_zip
    have b1 : Heap.IsTuple (Shared.heap ⟨hh, gg, dd, tt, oo⟩) l xs := a1
    have b2 : Heap.IsList (Shared.heap ⟨hh.push (itO "tuple_iterator" l), gg, dd, tt, oo⟩) l' ys := Heap.IsList.push a2 _
    wp_walk using wpAny_pyIter_tuple b1, wpAny_pyIter_list b2
    exact ⟨_, rfl, h⟩
theorem zm_lt (l l' : Addr) (xs ys : Array Value) :
    Meets (Builtin.«zip.__new__» ⟨[.type "zip", .ref l, .ref l'], []⟩) (fun _ R s => s.heap.IsList l xs ∧ s.heap.IsTuple l' ys ∧ R (.ok (.ret (.ref (zhN "list_iterator" "tuple_iterator" s.heap l l')))) { s with heap := zh5 "list_iterator" "tuple_iterator" s.heap l l' }) :=
  .of_wp fun prog w A R s h => by
    obtain ⟨hh, gg, dd, tt, oo⟩ := s
    obtain ⟨a1, a2, h⟩ := h
    have sub := sub_zip
    have b1 : Heap.IsList (Shared.heap ⟨hh, gg, dd, tt, oo⟩) l xs := a1
    have b2 : Heap.IsTuple (Shared.heap ⟨hh.push (itO "list_iterator" l), gg, dd, tt, oo⟩) l' ys := Heap.IsTuple.push a2 _
    wp_walk using wpAny_pyIter_list b1, wpAny_pyIter_tuple b2
    exact ⟨_, rfl, h⟩
section
variable {prog : Program} {w : World} {A : Around} {E : Value → Shared → Prop} {s : Shared} {l l' : Addr} {xs ys : Array Value} {Q : Value → Shared → Prop}
theorem put_last (h : Heap) (o : Obj) (f : o.isFreed = false) : (h.push o).get? h.objs.size = some o := Heap.get?_push_size h f
/-- what a new zip's heap holds -/
theorem zh5_is (n n' : String) (h : Heap) (l l' : Addr) : zhN n n' h l l' = h.objs.size + 4 ∧ (zh5 n n' h l l').objs.size = h.objs.size + 5 ∧
    (zh5 n n' h l l').get? (h.objs.size + 4) = some { cls := .type "zip", data := .fields #[.none, .bool false, .bool false, .ref (h.objs.size + 2), .ref (h.objs.size + 3)] } ∧
    IsPair (zh5 n n' h l l') (h.objs.size + 2) (.ref h.objs.size) (.ref (h.objs.size + 1)) ∧ IsPair (zh5 n n' h l l') (h.objs.size + 3) .none .none ∧
    (zh5 n n' h l l').get? h.objs.size = some (itO n l) ∧ (zh5 n n' h l l').get? (h.objs.size + 1) = some (itO n' l') ∧ ∀ c o, h.get? c = some o → (zh5 n n' h l l').get? c = some o := by
  have k1 : (h.push (itO n l)).objs.size = h.objs.size + 1 := Heap.size_push ..
  have k2 : ((h.push (itO n l)).push (itO n' l')).objs.size = h.objs.size + 2 := by rw [Heap.size_push, k1]
  have k3 : (((h.push (itO n l)).push (itO n' l')).push { cls := .type "tuple", data := .seq #[.ref h.objs.size, .ref (h.push (itO n l)).objs.size] }).objs.size = h.objs.size + 3 := by rw [Heap.size_push, k2]
  have k4 : zhN n n' h l l' = h.objs.size + 4 := by show Array.size _ = _; rw [Heap.size_push, k3]
  have r1 : (h.push (itO n l)).get? h.objs.size = some (itO n l) := Heap.get?_push_size _ rfl
  have r2 : ((h.push (itO n l)).push (itO n' l')).get? (h.push (itO n l)).objs.size = some (itO n' l') := Heap.get?_push_size _ rfl
  have r3 := put_last ((h.push (itO n l)).push (itO n' l')) { cls := .type "tuple", data := .seq #[.ref h.objs.size, .ref (h.push (itO n l)).objs.size] } rfl
  have r4 := put_last (((h.push (itO n l)).push (itO n' l')).push { cls := .type "tuple", data := .seq #[.ref h.objs.size, .ref (h.push (itO n l)).objs.size] }) { cls := .type "tuple", data := .seq #[.none, .none] } rfl
  have r5 := put_last ((((h.push (itO n l)).push (itO n' l')).push { cls := .type "tuple", data := .seq #[.ref h.objs.size, .ref (h.push (itO n l)).objs.size] }).push { cls := .type "tuple", data := .seq #[.none, .none] })
    { cls := .type "zip", data := .fields #[.none, .bool false, .bool false, .ref ((h.push (itO n l)).push (itO n' l')).objs.size, .ref (((h.push (itO n l)).push (itO n' l')).push { cls := .type "tuple", data := .seq #[.ref h.objs.size, .ref (h.push (itO n l)).objs.size] }).objs.size] } rfl
  have up : ∀ {g : Heap} {c : Addr} {o o' : Obj}, g.get? c = some o → (g.push o').get? c = some o := fun e => Heap.get?_push_of_some _ e
  refine ⟨k4, by rw [Heap.size_push]; show zhN n n' h l l' + 1 = _; rw [k4], ?_, ?_, ?_, up (up (up (up r1))), ?_, fun c o e => up (up (up (up (up e))))⟩
  · rw [← k4, ← k2, ← k3]; exact r5
  · rw [← k2, ← k1]; exact up (up r3)
  · rw [← k3]; exact up r4
  · rw [← k1]; exact up (up (up r2))
theorem call_zp {κ κ' : Kd} (a1 : Sq κ s.heap l xs) (a2 : Sq κ' s.heap l' ys)
    (q : ∀ h', Zp κ κ' (s.heap.objs.size + 4) (s.heap.objs.size + 2) (s.heap.objs.size + 3) s.heap.objs.size (s.heap.objs.size + 1) l l' xs ys 0 0 .none false h' → h'.objs.size = s.heap.objs.size + 5 →
      (∀ c o, s.heap.get? c = some o → h'.get? c = some o) → Q (.ref (s.heap.objs.size + 4)) { s with heap := h' }) : wpAny (model prog w) A (call (.type "zip") [.ref l, .ref l']) Q E s := by
  cases κ with
  | lst =>
    cases κ' with
    | lst => exact call_zip_2 a1 a2 fun h' e1 e2 e3 e4 e5 e6 up => q h' ⟨e1, e2, ⟨_, _, e3⟩, ⟨e4, a1.at fun o => up _ o⟩, ⟨e5, a2.at fun o => up _ o⟩⟩ e6 up
    | tup =>
      refine callType_new F.called_zip (by decide) (F.typeCall_zip_2 _ _) (F.newCall_zip_2 _ _) (fun obj => F.args_object_init_3 obj _ _) F.entry_zip_new (zm_lt l l' xs ys) ⟨a1, a2, ?_⟩
      obtain ⟨e0, e1, e2, e3, e4, e5, e6, up⟩ := zh5_is "list_iterator" "tuple_iterator" s.heap l l'
      show _ ∧ _
      rw [e0]
      exact ⟨⟨_, e2, rfl⟩, q _ ⟨e2, e3, ⟨_, _, e4⟩, ⟨⟨_, e5, rfl, rfl⟩, a1.at fun o => up _ o⟩, ⟨⟨_, e6, rfl, rfl⟩, a2.at fun o => up _ o⟩⟩ e1 up⟩
  | tup =>
    cases κ' with
    | lst =>
      refine callType_new F.called_zip (by decide) (F.typeCall_zip_2 _ _) (F.newCall_zip_2 _ _) (fun obj => F.args_object_init_3 obj _ _) F.entry_zip_new (zm_tl l l' xs ys) ⟨a1, a2, ?_⟩
      obtain ⟨e0, e1, e2, e3, e4, e5, e6, up⟩ := zh5_is "tuple_iterator" "list_iterator" s.heap l l'
      show _ ∧ _
      rw [e0]
      exact ⟨⟨_, e2, rfl⟩, q _ ⟨e2, e3, ⟨_, _, e4⟩, ⟨⟨_, e5, rfl, rfl⟩, a1.at fun o => up _ o⟩, ⟨⟨_, e6, rfl, rfl⟩, a2.at fun o => up _ o⟩⟩ e1 up⟩
    | tup => exact RZ.call_zipT a1 a2 fun h' e1 e2 e3 e4 e5 e6 up => q h' ⟨e1, e2, ⟨_, _, e3⟩, ⟨e4, a1.at fun o => up _ o⟩, ⟨e5, a2.at fun o => up _ o⟩⟩ e6 up
end
/-! ### walked -/
def SqK (K : PySem.W.Frag) (κ : Kd) (H : Hp) (a : Addr) (xs : List V) : Prop :=
  match κ with
  | .lst => SqL K H a xs
  | .tup => SqT K H a xs
def It1 (κ : Kd) (h : Heap) (p l : Addr) (k : Nat) : Prop :=
  match κ with
  | .lst => h.IsListIter p l k
  | .tup => h.IsTupleIter p l k
theorem It1.to {κ : Kd} {h h' : Heap} {p l : Addr} {k : Nat} (f : It1 κ h p l k) (e : ∀ o, h.get? p = some o → h'.get? p = some o) : It1 κ h' p l k := by
  cases κ with
  | lst => exact f.at e
  | tup => exact f.at e
theorem It1.obj {κ : Kd} {h : Heap} {p l : Addr} {k : Nat} (f : It1 κ h p l k) : ∃ o, h.get? p = some o ∧ ∀ v, o.data ≠ .cell v := by
  cases κ with
  | lst => obtain ⟨o, e, _, d⟩ := f; exact ⟨o, e, fun v q => by rw [d] at q; cases q⟩
  | tup => obtain ⟨o, e, _, d⟩ := f; exact ⟨o, e, fun v q => by rw [d] at q; cases q⟩
theorem Feed.it {κ : Kd} {h : Heap} {p l : Addr} {k : Nat} {xs : Array Value} (f : Feed κ h p l k xs) : It1 κ h p l k := by
  cases κ with
  | lst => exact f.1
  | tup => exact f.1
theorem It1.feed {κ : Kd} {h : Heap} {p l : Addr} {k : Nat} {xs : Array Value} (f : It1 κ h p l k) (g : Sq κ h l xs) : Feed κ h p l k xs := by
  cases κ with
  | lst => exact ⟨f, g⟩
  | tup => exact ⟨f, g⟩
section
variable {X : Cx} {pins : List (Addr × Obj)} {σ : L2.St} {H : Hp} {s : Shared}
theorem SqK.is (I : Inv X pins σ H s) {κ : Kd} {a : Addr} {xs : List V} (h : SqK X.K κ H a xs) : ∃ us, Vals xs us ∧ Sq κ s.heap a us.toArray ∧ xs.length ≤ sizeLine := by
  cases κ with
  | lst =>
    obtain ⟨us, r, p, hz⟩ := I.list h
    exact ⟨us, r, p.isList, hz⟩
  | tup =>
    obtain ⟨us, r, p, hz⟩ := I.tuple h
    exact ⟨us, r, p, hz⟩
theorem SqK.inj (I : Inv X pins σ H s) {κ : Kd} {a : Addr} {xs ys : List V} (h : SqK X.K κ H a xs) (h' : SqK X.K κ H a ys) : xs = ys := by
  cases κ with
  | lst => exact I.list_inj h h'
  | tup => exact I.tuple_inj h h'
theorem Sq.lt {κ : Kd} {h : Heap} {l : Addr} {xs : Array Value} (g : Sq κ h l xs) : l < h.objs.size := by
  cases κ with
  | lst => obtain ⟨o, e, _⟩ := g; exact Heap.lt_size e
  | tup => obtain ⟨o, e, _⟩ := g; exact Heap.lt_size e
theorem Sq.to {κ : Kd} {h h' : Heap} {l : Addr} {xs : Array Value} (g : Sq κ h l xs) (e : ∀ o, h.get? l = some o → h'.get? l = some o) : Sq κ h' l xs := by
  cases κ with
  | lst => exact g.at e
  | tup => exact g.at e
end
/-- a list or tuple at a, one at b, as they stand at each turn; the items in new pairs -/
def ItM (K : PySem.W.Frag) (κ κ' : Kd) (a b : Addr) : It :=
  ⟨fun i H => ∃ (xs ys : List V) (x y : V), SqK K κ H a xs ∧ SqK K κ' H b ys ∧ xs[i]? = some x ∧ ys[i]? = some y,
    fun i H v H' => ∃ T x y, v = .ref T ∧ H T = none ∧ H' = upd H T (.tup [x, y]) ∧ (∀ xs, SqK K κ H a xs → xs[i]? = some x) ∧ ∀ ys, SqK K κ' H b ys → ys[i]? = some y,
    fun i H => ∃ xs ys : List V, SqK K κ H a xs ∧ SqK K κ' H b ys ∧ (xs.length ≤ i ∨ ys.length ≤ i)⟩
structure Zt (κ κ' : Kd) (z I O p p' a b : Addr) (i : Nat) (h : Heap) : Prop where
  zip : h.get? z = some { cls := .type "zip", dict := none, data := .fields #[.none, .bool false, .bool false, .ref I, .ref O], slots := #[] }
  ins : IsPair h I (.ref p) (.ref p')
  out : ∃ x y, IsPair h O x y
  fst : It1 κ h p a i
  snd : It1 κ' h p' b i
theorem turn_m {P : Program} {w : World} {K : PySem.W.Frag} {es : List Expr} {kk : Nat} {tp : Pos} {κ κ' : Kd} {z I O p p' a b : Addr} (d : ZipApart z I O p p' a b) :
    Turn P w K (.Tuple es kk tp) (ItM K κ κ' a b) [z, I, O, p, p'] z (Zt κ κ' z I O p p' a b) where
  mem := List.mem_cons_self
  obj := fun i h st c hc => by
    simp only [List.mem_cons, List.not_mem_nil, or_false] at hc
    obtain ⟨x, y, ho⟩ := st.out
    rcases hc with rfl | rfl | rfl | rfl | rfl
    · exact ⟨_, st.zip, fun v q => nomatch q⟩
    · exact ⟨_, st.ins, fun v q => nomatch q⟩
    · exact ⟨_, ho, fun v q => nomatch q⟩
    · exact st.fst.obj
    · exact st.snd.obj
  keep := fun i h h' st k => by
    obtain ⟨x, y, ho⟩ := st.out
    exact ⟨k _ (by simp) _ st.zip, k _ (by simp) _ st.ins, ⟨x, y, k _ (by simp) _ ho⟩, st.fst.to fun o => k _ (by simp) o, st.snd.to fun o => k _ (by simp) o⟩
  item := by
    intro X hP hw hK hc i pins s σ H E J hf st ⟨xs, ys, x, y, hx, hy, ex, ey⟩
    subst hP hw hK
    obtain ⟨us, ru, gu, _⟩ := hx.is J
    obtain ⟨vs, rv, gv, _⟩ := hy.is J
    obtain ⟨u, eu, rx⟩ := ru.get ex
    obtain ⟨v, ev, ry⟩ := rv.get ey
    have m : Zp κ κ' z I O p p' a b us.toArray vs.toArray i i .none false s.heap := ⟨st.zip, st.ins, st.out, st.fst.feed gu, st.snd.feed gv⟩
    have zl : z < s.heap.objs.size := Heap.lt_size st.zip
    refine py_item d m (x := u) (y := v) (by simpa using eu) (by simpa using ev) fun h1 m1 t1 z1 u1 => ?_
    refine ⟨_, rfl, wpAny_letOwnedTupleGo_zip (s := { s with heap := h1 }) m1.zip fun h2 zz sb => ?_⟩
    have m2 := m1.setZ (t' := .none) (b' := false) d zz sb
    have t2 : h2.get? s.heap.objs.size = some { cls := .type "tuple", data := .seq #[u, v] } := sb.extBut _ _ (Nat.ne_of_gt zl) t1
    have new : ObjOk X.prog X.w (upd H s.heap.objs.size (.tup [x, y])) h2 s.heap.objs.size (.tup [x, y]) := ⟨by show 2 ≤ sizeLine; decide, [u, v], .cons rx (.cons ry .nil), ⟨_, t2, rfl, _, rfl⟩⟩
    have J1 : Inv X pins σ (upd H s.heap.objs.size (.tup [x, y])) { s with heap := h2 } :=
      J.turnedNew (t' := s.toks) (ch := [z, I, O, p, p']) (fun c o n q => sb.extBut _ _ (fun e => n (by simp [e])) (u1 c o (fun e => n (by simp at e ⊢; rcases e with e | e | e | e <;> simp [e])) q)) hf (Nat.le_refl _) new
    refine ⟨.ref s.heap.objs.size, _, J1, rfl, ⟨_, x, y, rfl, J.hok.fresh (Nat.le_refl _), rfl, fun l hl => by rw [SqK.inj J hl hx]; exact ex, fun l hl => by rw [SqK.inj J hl hy]; exact ey⟩, ⟨m2.zip, m2.ins, m2.out, m2.fst.it, m2.snd.it⟩, fun c hcm => ?_⟩
    have lt : c < s.heap.objs.size := by
      simp only [List.mem_cons, List.not_mem_nil, or_false] at hcm
      obtain ⟨_, _, ho⟩ := st.out
      rcases hcm with rfl | rfl | rfl | rfl | rfl
      · exact zl
      · exact Heap.lt_size st.ins
      · exact Heap.lt_size ho
      · obtain ⟨_, e, _⟩ := st.fst.obj; exact Heap.lt_size e
      · obtain ⟨_, e, _⟩ := st.snd.obj; exact Heap.lt_size e
    rw [upd_ne (Nat.ne_of_lt lt)]
    exact (hf c hcm).1
  done := by
    intro X hP hw hK hc i pins s σ H E J hf st ⟨xs, ys, hx, hy, hend⟩
    subst hP hw hK
    obtain ⟨us, ru, gu, _⟩ := hx.is J
    obtain ⟨vs, rv, gv, _⟩ := hy.is J
    have m : Zp κ κ' z I O p p' a b us.toArray vs.toArray i i .none false s.heap := ⟨st.zip, st.ins, st.out, st.fst.feed gu, st.snd.feed gv⟩
    have l1 := ru.length
    have l2 := rv.length
    have he : us.toArray[i]? = none ∨ vs.toArray[i]? = none := hend.imp (fun q => by simp; omega) fun q => by simp; omega
    exact py_over (J.ok.hd hc) d m he fun h1 u1 => ⟨rfl, J.turnedL (t' := s.toks) (ch := [z, I, O, p, p']) (fun c o n q => u1 c o (fun e => n (by simp at e ⊢; rcases e with e | e | e | e <;> simp [e])) q) hf⟩
  self := fun A i s Q E st h => wpAny_pyIter_zip st.zip h
theorem five_new {X : Cx} {pins : List (Addr × Obj)} {σ : L2.St} {H : Hp} {s : Shared} (I : Inv X pins σ H s) : ∀ c, c ∈ [s.heap.objs.size + 4, s.heap.objs.size + 2, s.heap.objs.size + 3, s.heap.objs.size, s.heap.objs.size + 1] → FpOk X pins H c := fun c hc => by
  have le : s.heap.objs.size ≤ c := by
    simp only [List.mem_cons, List.not_mem_nil, or_false] at hc
    omega
  exact I.fpOk le (I.hok.fresh le)
def iZipM (K : PySem.W.Frag) (ta : TA) : TI := fun σ H R => ta σ H fun vs H1 => ∃ κ κ' a b xs ys, vs = [.ref a, .ref b] ∧ SqK K κ H1 a xs ∧ SqK K κ' H1 b ys ∧ R (ItM K κ κ' a b) H1
theorem pi_zipM {X : Cx} {e e2 : Expr} {ta : TA} {p pos tp : Pos} {es : List Expr} {kk : Nat} (hg : Gl X "zip") (hm : X.mg "zip" = none) (ha : PA X [e, e2] ta)
    (hs : starEach [e, e2] X.env = (false, eval e X.env) :: starEach [e2] X.env := by rfl) (hpl : (backTo pos (starEach [e2] X.env)).any (·.1) = false := by rfl) : PI X (.Tuple es kk tp) (.Call (.Name "zip" p) [e, e2] [] pos) (iZipM X.K ta) := by
  refine ⟨fun pins s σ H R I h => ?_⟩
  refine Call_ (ld_blt I hg hm PyProof.Rows.boot_zip (PyProof.Rows.callWith_type1 (thn (ha.run pos pins s σ H _ I h) fun us s1 ⟨vs, H1, I1, r1, q1⟩ => ?_) hs hpl))
  obtain ⟨κ, κ', a, b, xs, ys, rfl, hx, hy, q⟩ := q1
  obtain ⟨u, v, rfl, rx, ry⟩ := vals2 r1
  cases rx
  cases ry
  obtain ⟨us, ru, gu, _⟩ := hx.is I1
  obtain ⟨ws, rw', gw, _⟩ := hy.is I1
  refine call_zp gu gw fun h' m sz up => wpAny_pyIter_zip m.zip ?_
  exact ⟨s1.heap.objs.size + 4, [s1.heap.objs.size + 4, s1.heap.objs.size + 2, s1.heap.objs.size + 3, s1.heap.objs.size, s1.heap.objs.size + 1], _, _, H1, rfl, I1.kept (t' := s1.toks) up,
    turn_m (PySem.W.ktu_apart s1.heap.objs.size a b gu.lt gw.lt), ⟨m.zip, m.ins, m.out, m.fst.it, m.snd.it⟩, five_new I1, q⟩
/-! ### dict(zip(..)) -/
theorem arg_m {prog : Program} {w : World} {κ κ' : Kd} {z I O p p' l l' : Addr} (d : ZipApart z I O p p' l l') (xs ys : Array Value) :
    PairArg prog w "zip" z [z, I, O, p, p', l, l'] [z, O, p, p'] (min xs.size ys.size) (fun i k v => xs[i]? = some k ∧ ys[i]? = some v) (Zp κ κ' z I O p p' l l' xs ys 0 0 .none false) where
  type := fun s m => ⟨_, m.zip, rfl⟩
  notDict := by decide
  keep := fun h h' m up => m.more up
  there := fun h m c hc => by
    simp only [List.mem_cons, List.not_mem_nil, or_false] at hc
    obtain ⟨_, _, ho⟩ := m.out
    have f1 := m.fst.lt
    have f2 := m.snd.lt
    rcases hc with rfl | rfl | rfl | rfl | rfl | rfl | rfl
    · exact ⟨_, m.zip⟩
    · exact ⟨_, m.ins⟩
    · exact ⟨_, ho⟩
    · obtain ⟨o, e, _⟩ := m.fst.obj; exact ⟨o, e⟩
    · obtain ⟨o, e, _⟩ := m.snd.obj; exact ⟨o, e⟩
    · cases κ with
      | lst => obtain ⟨_, o, e, _⟩ := m.fst; exact ⟨o, e⟩
      | tup => obtain ⟨_, o, e, _⟩ := m.fst; exact ⟨o, e⟩
    · cases κ' with
      | lst => obtain ⟨_, o, e, _⟩ := m.snd; exact ⟨o, e⟩
      | tup => obtain ⟨_, o, e, _⟩ := m.snd; exact ⟨o, e⟩
  sub := fun c hc => by simp only [List.mem_cons, List.not_mem_nil, or_false] at hc ⊢; rcases hc with e | e | e | e <;> simp [e]
  noKeys := fun A s Q E hA m h => getAttrOr_miss_zip m.zip rfl rfl rfl zip_no_keys (by decide +kernel) hA h
  iter := fun A s D Q E hA m hd hdf h => by
    simp only [List.mem_cons, List.not_mem_nil, or_false, not_or] at hdf
    obtain ⟨n1, n2, n3, n4, n5, n6, n7⟩ := hdf
    refine wpAny_pyIter_zip m.zip (h z [z, O, p, p'] (fun i g => Zp κ κ' z I O p p' l l' xs ys i i .none false g ∨ ∃ (T : Addr) (f : Bool) (o : Obj), Zp κ κ' z I O p p' l l' xs ys i i (rawInt T) f g ∧ g.get? T = some o ∧ T ≠ z ∧ T ≠ p ∧ T ≠ p' ∧ T ≠ D) s.heap s.toks ?_ (.inl m) (fun _ _ e => e) fun b hb => .inl hb)
    exact {
      off := fun hm => by simp only [List.mem_cons, List.not_mem_nil, or_false] at hm; exact hm.elim n1 fun hm => hm.elim n3 fun hm => hm.elim n4 n5
      frame := fun i g g' st up => by
        have mv : ∀ {t b}, Zp κ κ' z I O p p' l l' xs ys i i t b g → Zp κ κ' z I O p p' l l' xs ys i i t b g' := fun m =>
          ⟨up _ _ (Ne.symm n1) m.zip, up _ _ (Ne.symm n2) m.ins, m.out.imp fun x ⟨y, e⟩ => ⟨y, up _ _ (Ne.symm n3) e⟩, m.fst.to (fun o => up _ o (Ne.symm n4)) (fun o => up _ o (Ne.symm n6)), m.snd.to (fun o => up _ o (Ne.symm n5)) (fun o => up _ o (Ne.symm n7))⟩
        rcases st with m | ⟨T, f, o, m, eT, r1, r2, r3, r4⟩
        · exact .inl (mv m)
        · exact .inr ⟨T, f, o, mv m, up _ _ r4 eT, r1, r2, r3, r4⟩
      item := fun i s1 Q1 E1 hi st hds hQ => by
        have ex := Array.getElem?_eq_getElem (show i < xs.size by omega)
        have ey := Array.getElem?_eq_getElem (show i < ys.size by omega)
        rcases st with m | ⟨T, f, o, m, eT, r1, r2, r3, r4⟩
        · refine py_item d m ex ey fun g m' t' z' u => ?_
          refine hQ s1.heap.objs.size _ _ g s1.toks ⟨ex, ey⟩ (.inl ⟨_, t', rfl, _, rfl⟩) (.inr ⟨s1.heap.objs.size, false, _, m', t', Nat.ne_of_gt (Heap.lt_size m.zip), Nat.ne_of_gt m.fst.lt.1, Nat.ne_of_gt m.snd.lt.1, Nat.ne_of_gt hds⟩) u
        · refine py_item_out d m eT ex ey fun g m' t' z' u => ?_
          refine hQ s1.heap.objs.size _ _ g s1.toks ⟨ex, ey⟩ (.inl ⟨_, t', rfl, _, rfl⟩) (.inr ⟨T, true, o, m', u _ _ (by simp [r1, r2, r3]) eT, r1, r2, r3, r4⟩) fun c o' n e => u c o' (fun q => n (by simp at q ⊢; rcases q with q | q | q <;> simp [q])) e
      done := fun s1 Q1 E1 st hQ => by
        have hend : xs[min xs.size ys.size]? = none ∨ ys[min xs.size ys.size]? = none := by
          by_cases h : xs.size ≤ ys.size
          · exact .inl (Array.getElem?_eq_none (by omega))
          · exact .inr (Array.getElem?_eq_none (by omega))
        rcases st with m | ⟨T, f, o, m, eT, r1, r2, r3, r4⟩
        · exact py_over hA d m hend fun g u => hQ g s1.toks u
        · exact py_over_out hA d m eT hend fun g u => hQ g s1.toks fun c o' n e => u c o' (fun q => n (by simp at q ⊢; rcases q with q | q | q <;> simp [q])) e }
/-- what a dict gets of two rows: keys, values -/
def tDictZ (K : PySem.W.Frag) (ta : TA) : TE := fun σ H Q => ta σ H fun vs H1 => ∃ κ κ' a b, ∃ (ks : List Key) (ys : List V), vs = [.ref a, .ref b] ∧ SqK K κ H1 a (ks.map kV) ∧ SqK K κ' H1 b ys ∧ New H1 (.dK (mergeK [] (ks.zip ys))) fun p H2 => Q (.ref p) H2
theorem kv_zip : ∀ {ks : List Key} {ys : List V} {us : List Value}, Vals ys us → KV (ks.zip ys) (ks.zip us)
  | [], _, _, _ => .nil
  | k :: ks, _, _, .nil => .nil
  | k :: ks, _, _, .cons a b => .cons ⟨rfl, a⟩ (kv_zip b)
theorem pe_dictZ {X : Cx} {e e2 : Expr} {ta : TA} {p0 p pos0 pos : Pos} (hg0 : Gl X "dict") (hm0 : X.mg "dict" = none) (hg : Gl X "zip") (hm : X.mg "zip" = none) (ha : PA X [e, e2] ta) (hc : X.calm = true := by rfl)
    (hs0 : starEach [.Call (.Name "zip" p) [e, e2] [] pos] X.env = (false, eval (.Call (.Name "zip" p) [e, e2] [] pos) X.env) :: starEach [] X.env := by rfl)
    (hs : starEach [e, e2] X.env = (false, eval e X.env) :: starEach [e2] X.env := by rfl) (hpl : (backTo pos (starEach [e2] X.env)).any (·.1) = false := by rfl) :
    PE X (.Call (.Name "dict" p0) [.Call (.Name "zip" p) [e, e2] [] pos] [] pos0) (tDictZ X.K ta) := by
  refine ⟨fun pins s σ H Q I h => ?_⟩
  refine Call_ (ld_blt I hg0 hm0 PyProof.Rows.boot_dict ?_)
  refine PyProof.Rows.callWith_type1 (PyProof.Rows.args_cons ?_ hs0) hs0 rfl
  refine Call_ (ld_blt I hg hm PyProof.Rows.boot_zip (PyProof.Rows.callWith_type1 (thn (ha.run pos pins s σ H _ I h) fun us s1 ⟨vs, H1, I1, r1, q1⟩ => ?_) hs hpl))
  obtain ⟨κ, κ', a, b, ks, ys, rfl, hx, hy, q⟩ := q1
  obtain ⟨u, v, rfl, rx, ry⟩ := vals2 r1
  cases rx
  cases ry
  obtain ⟨us, ru, gu, zu⟩ := hx.is I1
  obtain ⟨ws, rv, gw, zw⟩ := hy.is I1
  refine call_zp gu gw fun h' m sz up => ?_
  refine PyProof.Rows.args_nil ?_
  have I2 : Inv X pins σ H1 { s1 with heap := h' } := I1.kept (t' := s1.toks) up
  have l1 : us.length = ks.length := by rw [← ru.length, List.length_map]
  have l2 : ws.length = ys.length := rv.length.symm
  rw [List.length_map] at zu
  have hln : min us.toArray.size ws.toArray.size ≤ sizeLine := by simp only [List.size_toArray]; omega
  refine PySem.call_dict_pairs (s := { s1 with heap := h' }) (knd := mixKind X.prog X.w) (kvs := ks.zip ws) (arg_m (PySem.W.ktu_apart s1.heap.objs.size a b gu.lt gw.lt) us.toArray ws.toArray) (I2.ok.hd hc) m ⟨?_, ?_⟩ hln fun h2 tk hd2 k2 => ?_
  · rw [List.length_zip]; simp only [List.size_toArray]; omega
  · rintro i key v ⟨e1, e2⟩
    rw [List.getElem?_toArray] at e1 e2
    have hi : i < ks.length := by have := (List.getElem?_eq_some_iff.mp e1).1; omega
    have hk : ks[i]? = some ks[i] := List.getElem?_eq_getElem hi
    obtain ⟨u', eu, ru'⟩ := ru.get (show (ks.map kV)[i]? = some (kV ks[i]) by rw [List.getElem?_map, hk]; rfl)
    rw [e1] at eu
    cases eu
    exact ⟨ks[i], by rw [List.getElem?_zip_eq_some]; exact ⟨hk, e2⟩, kV_is (P := X.prog) (w := X.w) ru'⟩
  · have hb : (h'.objs.size == sysModules) = false := beq_eq_false_iff_ne.mpr (Nat.ne_of_gt I2.big)
    have hlen : (mergeK [] (ks.zip ys)).length ≤ sizeLine := by
      refine Nat.le_trans (length_mergeK _ []) ?_
      rw [List.length_nil, Nat.zero_add, List.length_zip]
      omega
    have new : ObjOk X.prog X.w (upd H1 h'.objs.size (.dK (mergeK [] (ks.zip ys)))) h2 h'.objs.size (.dK (mergeK [] (ks.zip ys))) := ⟨hlen, hb, merged [] (ks.zip ws), KV.merge (kv_zip rv) .nil, hd2⟩
    have hn : H1 h'.objs.size = none := I2.hok.fresh (Nat.le_refl _)
    refine ⟨.ref h'.objs.size, _, I2.turnedNew (t' := tk) (ch := [s1.heap.objs.size + 4, s1.heap.objs.size + 2, s1.heap.objs.size + 3, s1.heap.objs.size, s1.heap.objs.size + 1]) (fun c o n e => k2 c o (fun q => n (by simp at q ⊢; rcases q with q | q | q | q <;> simp [q])) e) ?_ (Nat.le_refl _) new, rfl, q.at _ hn⟩
    exact five_new I1
/-! ### zips, dicts of zips, in a walk -/
theorem g_dictZ {K : PySem.W.Frag} {σ : L2.St} {H : Hp} {Q : VK} {ta : TA} (h : ta σ H fun vs H1 => ∃ κ κ' a b, ∃ (ks : List Key) (ys : List V), vs = [.ref a, .ref b] ∧ SqK K κ H1 a (ks.map kV) ∧ SqK K κ' H1 b ys ∧ New H1 (.dK (mergeK [] (ks.zip ys))) fun p H2 => Q (.ref p) H2) : tDictZ K ta σ H Q := h
theorem g_zipM {K : PySem.W.Frag} {σ : L2.St} {H : Hp} {R : It → Hp → Prop} {ta : TA} (h : ta σ H fun vs H1 => ∃ κ κ' a b xs ys, vs = [.ref a, .ref b] ∧ SqK K κ H1 a xs ∧ SqK K κ' H1 b ys ∧ R (ItM K κ κ' a b) H1) : iZipM K ta σ H R := h
/-- a loop over a zip -/
theorem for_M {K : PySem.W.Frag} {κ κ' : Kd} {g : TG} {tb : TS} {D : Ends} {σ : L2.St} {H : Hp} {a b : Addr} {xs ys : List V} (Pv : Nat → L2.St → Hp → Prop) (ha : ∀ i σ H', Pv i σ H' → SqK K κ H' a xs ∧ SqK K κ' H' b ys) (h0 : Pv 0 σ H)
    (hs : ∀ (i : Nat) x y T σ H' H'', xs[i]? = some x → ys[i]? = some y → Pv i σ H' → Fr H' T → H'' T = some (.tup [x, y]) → Same H' H'' → g (.ref T) σ H'' fun σ2 H2 => tb { D with nx := Pv (i + 1), ct := Pv (i + 1), bk := D.nx } σ2 H2)
    (hd : ∀ σ H', Pv (min xs.length ys.length) σ H' → D.nx σ H') : ForW (ItM K κ κ' a b) g tb D σ H :=
  for_any (min xs.length ys.length) Pv h0 (fun i σ H' hi p => ⟨xs, ys, _, _, (ha _ _ _ p).1, (ha _ _ _ p).2, List.getElem?_eq_getElem (by omega), List.getElem?_eq_getElem (by omega)⟩)
    (fun σ H' p => ⟨xs, ys, (ha _ _ _ p).1, (ha _ _ _ p).2, by omega⟩)
    (fun i v σ H1 H2 hi p ⟨T, x, y, e1, hT, e2, fx, fy⟩ => by
      subst e1
      subst e2
      exact hs i x y T σ H1 _ (fx _ (ha _ _ _ p).1) (fy _ (ha _ _ _ p).2) p hT upd_same (same_upd hT)) hd

local macro_rules | `(tactic| walk_at "g1") => `(tactic| first
  | with_reducible refine g_seq ?_ | with_reducible refine g_asg ?_ | with_reducible refine g_op ?_ | with_reducible refine g_ixop ?_ | ((with_reducible refine g_ixL (xs := ?gx) (v := ?gv) (SqL.of ?gh) ?ge ?_); (case gh => assumption); (case ge => exact rfl)) | with_reducible refine g_c ?_
  | ((with_reducible refine g_var (v := ?gv) ?gh ?_); (case gh => exact rfl))
  | ((with_reducible refine g_name (σ' := ?gs) ?gh ?_); (case gh => (dsimp only [List.set]; exact rfl)))
  | with_reducible refine g_cons ?_ | with_reducible refine g_nil ?_ | with_reducible refine g_ifs ?_ | with_reducible refine g_test ?_ | with_reducible refine g_bl ?_ | with_reducible refine g_cb ?_
  | with_reducible refine g_addI ?_ | with_reducible refine g_subI ?_ | with_reducible refine g_eqI ?_ | with_reducible refine g_eqS ?_ | with_reducible refine g_neI ?_ | with_reducible refine g_neS ?_
  | with_reducible refine g_ltI ?_ | with_reducible refine g_leI ?_ | with_reducible refine g_gtI ?_ | with_reducible refine g_geI ?_
  | with_reducible refine g_ret ?_ | with_reducible refine g_next ?_ | with_reducible refine g_call ?_ | with_reducible refine g_drop ?_ | with_reducible refine g_sub ?_
  | with_reducible refine g_and ?_ | with_reducible refine g_or ?_ | with_reducible refine g_not ?_ | with_reducible refine g_tru ?_ | with_reducible refine g_trubl ?_ | with_reducible refine g_truint ?_ | with_reducible refine g_ifx ?_
  | with_reducible refine g_abs ?_ | with_reducible refine g_max2 ?_ | with_reducible refine g_min2 ?_ | with_reducible refine g_intI ?_ | with_reducible refine g_intB ?_
  | with_reducible refine g_tup ?_ | with_reducible refine g_lst ?_ | ((with_reducible refine g_len ?gl ?_); (case gl => (show _ ≤ 16777216; simp only [List.length_cons, List.length_nil]; omega))) | with_reducible refine g_dnew ?_
  | with_reducible refine g_bm ?_ | with_reducible refine g_bm0 ?_ | with_reducible refine g_m1 ?_ | with_reducible refine g_isstr ?_ | with_reducible refine g_sl ?_ | with_reducible refine g_nopart ?_ | with_reducible refine g_part ?_ | with_reducible refine g_ispart ?_
  | with_reducible refine g_un ?_ | with_reducible refine g_neg ?_ | with_reducible refine g_andT ?_ | with_reducible refine g_orT ?_ | with_reducible refine g_notT ?_ | with_reducible refine g_rev ?_ | with_reducible refine g_par ?_ | with_reducible refine g_lc ?_ | with_reducible refine g_for ?_ | with_reducible refine g_rng1 ?_ | with_reducible refine g_yes ?_ | with_reducible refine g_isS ?_ | with_reducible refine g_disp ?_ | with_reducible refine g_pcons ?_ | with_reducible refine g_pnil ?_ | with_reducible refine g_get2 ?_)
local macro_rules | `(tactic| walk_at "go") => `(tactic| repeat walk_at "g1")

/-! ### the readings of the defs -/
def t_is_small (K : PySem.W.Frag) (w : World) : TS :=
  (tRet (tOp rLtG (tCB rAbsG (tCons (tVar 0) tNil)) (tOp rPowG (tC (.int 10)) (tC (.int 60)))))
def t_bodies (K : PySem.W.Frag) (w : World) : TS :=
  (tRet (tOp (rAddG K) (tLc (iSeq K (tIxG K w (tVar 0) (tC (.int 0)))) (gTup K 3 (gCons (gName 1) (gCons (gName 2) (gCons (gName 3) gNil)))) tYes (tVar 3) [1, 2, 3]) (tLstN (tCons (tIxG K w (tVar 0) (tC (.int 1))) tNil))))
def t_number_of (K : PySem.W.Frag) (w : World) : TS :=
  (tSeq (tAsg (tLc (iSeq K (tIxG K w (tVar 0) (tC (.int 0)))) (gTup K 3 (gCons (gName 3) (gCons (gName 4) (gCons (gName 5) gNil)))) tYes (tVar 3) [3, 4, 5]) (gName 2))
  (tRet (tIf (tTest (tOp (rInG K w false) (tVar 1) (tVar 2))) (tBM K "list" (rIndex K) (tVar 2) (tCons (tVar 1) tNil)) (tCB (rLenG K) (tCons (tVar 2) tNil)))))
def t_things_of (K : PySem.W.Frag) (w : World) (s_number_of : Sp) : TS :=
  (tSeq (tAsg (tCall s_number_of [] E0 (tCons (tVar 0) (tCons (tVar 1) tNil))) (gName 2))
  (tRet (tIf (tTest (tOp (rEqG K) (tVar 2) (tCB (rLenG K) (tCons (tIxG K w (tVar 0) (tC (.int 0))) tNil)))) (tTupN tNil) (tIxG K w (tIxG K w (tIxG K w (tVar 0) (tC (.int 0))) (tVar 2)) (tC (.int 1))))))
def t_wants (K : PySem.W.Frag) (w : World) (s_things_of : Sp) : TS :=
  (tRet (tCB (rLenG K) (tCons (tCall s_things_of [] E0 (tCons (tVar 0) (tCons (tVar 1) tNil))) tNil)))
def t_body_of (K : PySem.W.Frag) (w : World) (s_bodies : Sp) (s_number_of : Sp) : TS :=
  (tRet (tIxG K w (tCall s_bodies [] E0 (tCons (tVar 0) tNil)) (tCall s_number_of [] E0 (tCons (tVar 0) (tCons (tVar 1) tNil)))))
def t_put_in (K : PySem.W.Frag) (w : World) (s_put_in : Sp) : TS :=
  (tSeq (tIfS (tTest (tOp (rEqG K) (tIxG K w (tVar 0) (tC (.int 0))) (tC (.str "name")))) (tRet (tIf (tTest (tOp (rInG K w false) (tIxG K w (tVar 0) (tC (.int 1))) (tVar 1))) (tTupN (tCons (tC (.str "shut")) (tCons (tIxG K w (tVar 1) (tIxG K w (tVar 0) (tC (.int 1)))) tNil))) (tVar 0))) tNext)
  (tSeq (tIfS (tTest (tOp (rEqG K) (tIxG K w (tVar 0) (tC (.int 0))) (tC (.str "let")))) (tSeq (tAsg (tCB (rTupleG K) (tCons (tLc (iSeq K (tIxG K w (tVar 0) (tC (.int 1)))) (gTup K 2 (gCons (gName 3) (gCons (gName 4) gNil))) tYes (tTupN (tCons (tVar 3) (tCons (tCall s_put_in [] E0 (tCons (tVar 4) (tCons (tVar 1) tNil))) tNil))) [3, 4]) tNil)) (gName 2))
  (tRet (tTupN (tCons (tC (.str "let")) (tCons (tVar 2) (tCons (tCall s_put_in [] E0 (tCons (tIxG K w (tVar 0) (tC (.int 2))) (tCons (tVar 1) tNil))) tNil)))))) tNext)
  (tSeq (tIfS (tTest (tOp (rInG K w false) (tIxG K w (tVar 0) (tC (.int 0))) (tC (.ref (He.ga K "PARTS"))))) (tRet (tOp (rAddG K) (tSl (rSlG K) (tVar 0) tNoPart (tPart (tC (.int 1)))) (tCB (rTupleG K) (tCons (tLc (iSeq K (tSl (rSlG K) (tVar 0) (tPart (tC (.int 1))) tNoPart)) (gName 4) tYes (tCall s_put_in [] E0 (tCons (tVar 4) (tCons (tVar 1) tNil))) [4]) tNil)))) tNext)
  (tRet (tVar 0)))))
def t_spine (K : PySem.W.Frag) (w : World) : TS :=
  (tSeq (tAsg (tLstN tNil) (gName 1))
  (tSeq (tWhile (tTest (tOp (rEqG K) (tIxG K w (tVar 0) (tC (.int 0))) (tC (.str "give")))) (tSeq (tDrop (tBM K "list" rAppendG (tVar 1) (tCons (tIxG K w (tVar 0) (tC (.int 2))) tNil)))
  (tAsg (tIxG K w (tVar 0) (tC (.int 1))) (gName 0))))
  (tRet (tTupN (tCons (tVar 0) (tCons (tRevG K (tVar 1)) tNil))))))
def t_is_worth (K : PySem.W.Frag) (w : World) (s_spine : Sp) (s_wants : Sp) : TS :=
  (tSeq (tIfS (tTest (tOp (rInG K w false) (tIxG K w (tVar 1) (tC (.int 0))) (tTupN (tCons (tC (.str "number")) (tCons (tC (.str "pair")) tNil))))) (tRet (tC (.bl true))) tNext)
  (tSeq (tAsg (tCall s_spine [] E0 (tCons (tVar 1) tNil)) (gTup K 2 (gCons (gName 2) (gCons (gName 3) gNil))))
  (tRet (tAndT K (tOp (rEqG K) (tIxG K w (tVar 2) (tC (.int 0))) (tC (.str "fun"))) (tOp rLtG (tCB (rLenG K) (tCons (tVar 3) tNil)) (tCall s_wants [] E0 (tCons (tVar 0) (tCons (tIxG K w (tVar 2) (tC (.int 1))) tNil))))))))
def t_strict_at (K : PySem.W.Frag) (w : World) (s_is_worth : Sp) : TS :=
  (tSeq (tIfS (tAnd (tTest (tOp (rInG K w false) (tIxG K w (tVar 1) (tC (.int 0))) (tC (.ref (He.ga K "OPERATIONS"))))) (tAnd (tTru K (tCall s_is_worth [] E0 (tCons (tVar 0) (tCons (tIxG K w (tVar 1) (tC (.int 1))) tNil)))) (tTest (tOp (rEqG K) (tIxG K w (tIxG K w (tVar 1) (tC (.int 1))) (tC (.int 0))) (tC (.str "number")))))) (tRet (tIf (tTru K (tCall s_is_worth [] E0 (tCons (tVar 0) (tCons (tIxG K w (tVar 1) (tC (.int 2))) tNil)))) (tC (.int 0)) (tC (.int 2)))) tNext)
  (tSeq (tIfS (tOr (tTest (tOp (rInG K w false) (tIxG K w (tVar 1) (tC (.int 0))) (tTupN (tCons (tC (.str "give")) (tCons (tC (.str "when")) (tCons (tC (.str "left")) (tCons (tC (.str "right")) tNil))))))) (tTest (tOp (rInG K w false) (tIxG K w (tVar 1) (tC (.int 0))) (tC (.ref (He.ga K "OPERATIONS")))))) (tRet (tIf (tTru K (tCall s_is_worth [] E0 (tCons (tVar 0) (tCons (tIxG K w (tVar 1) (tC (.int 1))) tNil)))) (tC (.int 0)) (tC (.int 1)))) tNext)
  (tRet (tC (.int 0)))))
def t_reckoned (K : PySem.W.Frag) (w : World) : TS :=
  (tSeq (tIfS (tTest (tOp (rEqG K) (tVar 0) (tC (.str "plus")))) (tRet (tOp (rAddG K) (tVar 1) (tVar 2))) tNext)
  (tSeq (tIfS (tTest (tOp (rEqG K) (tVar 0) (tC (.str "less")))) (tRet (tOp rSubG (tVar 1) (tVar 2))) tNext)
  (tSeq (tIfS (tTest (tOp (rEqG K) (tVar 0) (tC (.str "times")))) (tRet (tOp rMulG (tVar 1) (tVar 2))) tNext)
  (tRet (tCB rIntG (tCons (tOp rLtG (tVar 1) (tVar 2)) tNil))))))
def t_of_numbers (K : PySem.W.Frag) (w : World) (s_reckoned : Sp) (s_is_small : Sp) : TS :=
  (tSeq (tIfS (tOr (tTest (tOp (rNeG K) (tIxG K w (tIxG K w (tVar 0) (tC (.int 1))) (tC (.int 0))) (tC (.str "number")))) (tTest (tOp (rNeG K) (tIxG K w (tIxG K w (tVar 0) (tC (.int 2))) (tC (.int 0))) (tC (.str "number"))))) (tRet (tTupN (tCons (tC (.str "fault")) (tCons (tC (.str "number")) tNil)))) tNext)
  (tSeq (tAsg (tCall s_reckoned [] E0 (tCons (tIxG K w (tVar 0) (tC (.int 0))) (tCons (tIxG K w (tIxG K w (tVar 0) (tC (.int 1))) (tC (.int 1))) (tCons (tIxG K w (tIxG K w (tVar 0) (tC (.int 2))) (tC (.int 1))) tNil)))) (gName 1))
  (tSeq (tIfS (tNot (tTru K (tCall s_is_small [] E0 (tCons (tVar 1) tNil)))) (tRet (tTupN (tCons (tC (.str "fault")) (tCons (tC (.str "great")) tNil)))) tNext)
  (tRet (tTupN (tCons (tC (.str "number")) (tCons (tTupN (tCons (tC (.str "number")) (tCons (tVar 1) tNil))) tNil)))))))
def t_called (K : PySem.W.Frag) (w : World) (s_spine : Sp) (s_put_in : Sp) (s_things_of : Sp) (s_body_of : Sp) : TS :=
  (tSeq (tAsg (tCall s_spine [] E0 (tCons (tVar 1) tNil)) (gTup K 2 (gCons (gName 2) (gCons (gName 3) gNil))))
  (tSeq (tIfS (tTest (tOp (rNeG K) (tIxG K w (tVar 2) (tC (.int 0))) (tC (.str "fun")))) (tRet (tTupN (tCons (tC (.str "fault")) (tCons (tC (.str "function")) tNil)))) tNext)
  (tRet (tTupN (tCons (tC (.str "call")) (tCons (tCall s_put_in [] E0 (tCons (tCall s_body_of [] E0 (tCons (tVar 0) (tCons (tIxG K w (tVar 2) (tC (.int 1))) tNil))) (tCons (tDictZ K (tCons (tCall s_things_of [] E0 (tCons (tVar 0) (tCons (tIxG K w (tVar 2) (tC (.int 1))) tNil))) (tCons (tVar 3) tNil))) tNil))) tNil))))))
def t_own_step (K : PySem.W.Frag) (w : World) (s_of_numbers : Sp) (s_called : Sp) (s_put_in : Sp) : TS :=
  (tSeq (tIfS (tTest (tOp (rInG K w false) (tIxG K w (tVar 1) (tC (.int 0))) (tC (.ref (He.ga K "OPERATIONS"))))) (tRet (tCall s_of_numbers [] E0 (tCons (tVar 1) tNil))) tNext)
  (tSeq (tIfS (tTest (tOp (rInG K w false) (tIxG K w (tVar 1) (tC (.int 0))) (tTupN (tCons (tC (.str "give")) (tCons (tC (.str "fun")) tNil))))) (tRet (tCall s_called [] E0 (tCons (tVar 0) (tCons (tVar 1) tNil)))) tNext)
  (tSeq (tIfS (tTest (tOp (rEqG K) (tIxG K w (tVar 1) (tC (.int 0))) (tC (.str "let")))) (tRet (tTupN (tCons (tC (.str "let")) (tCons (tCall s_put_in [] E0 (tCons (tIxG K w (tVar 1) (tC (.int 2))) (tCons (tCB (rDictP K) (tCons (tLc (iSeq K (tIxG K w (tVar 1) (tC (.int 1)))) (gTup K 2 (gCons (gName 2) (gCons (gName 3) gNil))) tYes (tTupN (tCons (tVar 2) (tCons (tTupN (tCons (tC (.str "let")) (tCons (tIxG K w (tVar 1) (tC (.int 1))) (tCons (tVar 3) tNil)))) tNil))) [2, 3]) tNil)) tNil))) tNil)))) tNext)
  (tSeq (tIfS (tTest (tOp (rEqG K) (tIxG K w (tVar 1) (tC (.int 0))) (tC (.str "shut")))) (tRet (tTupN (tCons (tC (.str "open")) (tCons (tIxG K w (tVar 1) (tC (.int 1))) tNil)))) tNext)
  (tSeq (tIfS (tTest (tOp (rEqG K) (tIxG K w (tVar 1) (tC (.int 0))) (tC (.str "when")))) (tSeq (tIfS (tTest (tOp (rNeG K) (tIxG K w (tIxG K w (tVar 1) (tC (.int 1))) (tC (.int 0))) (tC (.str "number")))) (tRet (tTupN (tCons (tC (.str "fault")) (tCons (tC (.str "number")) tNil)))) tNext)
  (tRet (tTupN (tCons (tC (.str "turn")) (tCons (tIf (tTest (tOp (rNeG K) (tIxG K w (tIxG K w (tVar 1) (tC (.int 1))) (tC (.int 1))) (tC (.int 0)))) (tIxG K w (tVar 1) (tC (.int 2))) (tIxG K w (tVar 1) (tC (.int 3)))) tNil))))) tNext)
  (tSeq (tIfS (tTest (tOp (rNeG K) (tIxG K w (tIxG K w (tVar 1) (tC (.int 1))) (tC (.int 0))) (tC (.str "pair")))) (tRet (tTupN (tCons (tC (.str "fault")) (tCons (tC (.str "pair")) tNil)))) tNext)
  (tRet (tTupN (tCons (tC (.str "side")) (tCons (tIf (tTest (tOp (rEqG K) (tIxG K w (tVar 1) (tC (.int 0))) (tC (.str "left")))) (tIxG K w (tIxG K w (tVar 1) (tC (.int 1))) (tC (.int 1))) (tIxG K w (tIxG K w (tVar 1) (tC (.int 1))) (tC (.int 2)))) tNil))))))))))
def t_shown (K : PySem.W.Frag) (w : World) (s_spine : Sp) : TS :=
  (tSeq (tIfS (tTest (tOp (rEqG K) (tIxG K w (tVar 0) (tC (.int 0))) (tC (.str "number")))) (tRet (tTupN (tCons (tC (.str "number")) (tCons (tIxG K w (tVar 0) (tC (.int 1))) tNil)))) tNext)
  (tSeq (tIfS (tTest (tOp (rEqG K) (tIxG K w (tVar 0) (tC (.int 0))) (tC (.str "pair")))) (tRet (tTupN (tCons (tC (.str "pair")) tNil))) tNext)
  (tSeq (tAsg (tCall s_spine [] E0 (tCons (tVar 0) tNil)) (gTup K 2 (gCons (gName 1) (gCons (gName 2) gNil))))
  (tRet (tTupN (tCons (tC (.str "function")) (tCons (tIxG K w (tVar 1) (tC (.int 1))) (tCons (tCB (rLenG K) (tCons (tVar 2) tNil)) tNil))))))))
def t_come_to (K : PySem.W.Frag) (w : World) (s_is_worth : Sp) (s_strict_at : Sp) (s_own_step : Sp) : TS :=
  (tSeq (tAsg (tLstN tNil) (gName 3))
  (tSeq (tAsg (tLstN tNil) (gName 4))
  (tSeq (tWhile (tOr (tTest (tOp (rNeG K) (tVar 4) (tLstN tNil))) (tNot (tTru K (tCall s_is_worth [] E0 (tCons (tVar 0) (tCons (tVar 1) tNil)))))) (tSeq (tAsg (tIf (tTru K (tCall s_is_worth [] E0 (tCons (tVar 0) (tCons (tVar 1) tNil)))) (tC (.int 0)) (tCall s_strict_at [] E0 (tCons (tVar 0) (tCons (tVar 1) tNil)))) (gName 5))
  (tIfS (tTru K (tCall s_is_worth [] E0 (tCons (tVar 0) (tCons (tVar 1) tNil)))) (tSeq (tAsg (tBM0 K "list" rPopG (tVar 4)) (gTup K 2 (gCons (gName 6) (gCons (gName 5) gNil))))
  (tAsg (tOp (rAddG K) (tOp (rAddG K) (tSl (rSlG K) (tVar 6) tNoPart (tPart (tVar 5))) (tTupN (tCons (tVar 1) tNil))) (tSl (rSlG K) (tVar 6) (tPart (tOp (rAddG K) (tVar 5) (tC (.int 1)))) tNoPart)) (gName 1))) (tIfS (tTest (tOp rGtG (tVar 5) (tC (.int 0)))) (tSeq (tDrop (tBM K "list" rAppendG (tVar 4) (tCons (tTupN (tCons (tVar 1) (tCons (tVar 5) tNil))) tNil)))
  (tAsg (tIxG K w (tVar 1) (tVar 5)) (gName 1))) (tSeq (tAsg (tCall s_own_step [] E0 (tCons (tVar 0) (tCons (tVar 1) tNil))) (gTup K 2 (gCons (gName 7) (gCons (gName 8) gNil))))
  (tSeq (tIfS (tTest (tOp (rEqG K) (tVar 7) (tC (.str "fault")))) (tRet (tTupN (tCons (tC (.str "fault")) (tCons (tVar 8) (tCons (tVar 3) tNil))))) tNext)
  (tSeq (tIfS (tTest (tOp (rEqG K) (tCB (rLenG K) (tCons (tVar 3) tNil)) (tVar 2))) (tRet (tTupN (tCons (tC (.str "more")) (tCons (tVar 1) (tCons (tVar 3) tNil))))) tNext)
  (tSeq (tDrop (tBM K "list" rAppendG (tVar 3) (tCons (tVar 7) tNil)))
  (tAsg (tVar 8) (gName 1))))))))))
  (tRet (tTupN (tCons (tC (.str "worth")) (tCons (tVar 1) (tCons (tVar 3) tNil))))))))
def t_led (K : PySem.W.Frag) (w : World) (s_come_to : Sp) (s_shown : Sp) : TS :=
  (tSeq (tAsg (tCall s_come_to [] E0 (tCons (tVar 0) (tCons (tVar 1) (tCons (tVar 2) tNil)))) (gTup K 3 (gCons (gName 3) (gCons (gName 4) (gCons (gName 5) gNil)))))
  (tSeq (tIfS (tTest (tOp (rEqG K) (tVar 3) (tC (.str "worth")))) (tRet (tTupN (tCons (tCall s_shown [] E0 (tCons (tVar 4) tNil)) (tCons (tVar 5) tNil)))) tNext)
  (tSeq (tIfS (tTest (tOp (rEqG K) (tVar 3) (tC (.str "fault")))) (tRet (tTupN (tCons (tTupN (tCons (tC (.str "fault")) (tCons (tVar 4) tNil))) (tCons (tVar 5) tNil)))) tNext)
  (tRet (tTupN (tCons (tTupN (tCons (tC (.str "more")) tNil)) (tCons (tVar 5) tNil)))))))
def t_law_pen (K : PySem.W.Frag) (w : World) : TS :=
  (tRet (tLstN (tCons (tCB (rListG K) (tCons (tSl (rSlG K) (tVar 0) tNoPart (tPart (tC (.int 63)))) tNil)) (tCons (tC (.int 0)) (tCons (tC (.int 0)) tNil)))))
def t_law_draw (K : PySem.W.Frag) (w : World) : TS :=
  (tSeq (tIfS (tTest (tOp rGtG (tIxG K w (tVar 0) (tC (.int 2))) (tC (.int 0)))) (tSeq (tAsg (tOp rModG (tIxG K w (tVar 0) (tC (.int 2))) (tVar 1)) (gName 2))
  (tSeq (tAsg (tOp rDivG (tIxG K w (tVar 0) (tC (.int 2))) (tVar 1)) (gSub (tVar 0) (tC (.int 2)) rSetG))
  (tRet (tVar 2)))) tNext)
  (tSeq (tAsg (tIxG K w (tVar 0) (tC (.int 1))) (gName 3))
  (tSeq (tAsg (tOp (rAddG K) (tVar 3) (tC (.int 1))) (gSub (tVar 0) (tC (.int 1)) rSetG))
  (tSeq (tAsg (tIxG K w (tOp (rAddG K) (tIxG K w (tVar 0) (tC (.int 0))) (tLstN (tCons (tC (.int 7)) tNil))) (tOp rModG (tVar 3) (tCB rMax2 (tCons (tC (.int 1)) (tCons (tCB (rLenG K) (tCons (tIxG K w (tVar 0) (tC (.int 0))) tNil)) tNil))))) (gName 4))
  (tSeq (tIfS (tAnd (tTest (tOp rLtG (tVar 3) (tCB (rLenG K) (tCons (tIxG K w (tVar 0) (tC (.int 0))) tNil)))) (tTest (tOp rGeG (tCB rAbsG (tCons (tVar 4) tNil)) (tOp rPowG (tC (.int 10)) (tC (.int 18)))))) (tSeq (tAsg (tOp rDivG (tCB rAbsG (tCons (tVar 4) tNil)) (tVar 1)) (gSub (tVar 0) (tC (.int 2)) rSetG))
  (tRet (tOp rModG (tCB rAbsG (tCons (tVar 4) tNil)) (tVar 1)))) tNext)
  (tSeq (tAsg (tIxG K w (tLstN (tCons (tC (.int 2147483647)) (tCons (tC (.int 2147483629)) (tCons (tC (.int 2147483587)) (tCons (tC (.int 2147483579)) (tCons (tC (.int 2147483563)) (tCons (tC (.int 2147483549)) (tCons (tC (.int 2147483543)) tNil)))))))) (tOp rModG (tVar 3) (tC (.int 7)))) (gName 5))
  (tSeq (tAsg (tOp rModG (tOp rMulG (tOp (rAddG K) (tOp (rAddG K) (tOp rModG (tVar 4) (tC (.int 2147483497))) (tOp rMulG (tC (.int 69621)) (tVar 3))) (tC (.int 13))) (tC (.int 48271))) (tVar 5)) (gName 6))
  (tSeq (tAsg (tOp rModG (tOp (rAddG K) (tOp (rAddG K) (tOp rMulG (tVar 6) (tVar 6)) (tOp rMulG (tC (.int 40692)) (tVar 6))) (tVar 3)) (tC (.int 2147483489))) (gName 6))
  (tRet (tOp rModG (tOp rDivG (tOp rModG (tOp rMulG (tVar 6) (tC (.int 16807))) (tC (.int 2147483477))) (tC (.int 32))) (tVar 1)))))))))))
def t_law_called (K : PySem.W.Frag) (w : World) : TS :=
  (tSeq (tAsg (tIxG K w (tLc (iSeq K (tIxG K w (tVar 0) (tC (.int 0)))) (gTup K 3 (gCons (gName 5) (gCons (gName 3) (gCons (gName 4) gNil)))) (tTest (tOp (rEqG K) (tVar 5) (tVar 1))) (tTupN (tCons (tVar 3) (tCons (tVar 4) tNil))) [5, 3, 4]) (tC (.int 0))) (gTup K 2 (gCons (gName 3) (gCons (gName 4) gNil))))
  (tSeq (tAsg (tDNewKN) (gName 6))
  (tSeq (tFor (iZipM K (tCons (tVar 3) (tCons (tVar 2) tNil))) (gTup K 2 (gCons (gName 5) (gCons (gName 7) gNil))) (tAsg (tOp (rAddG K) (tVar 7) (tTupN (tCons (tC (.bl false)) tNil))) (gSub (tVar 6) (tVar 5) rSetG)))
  (tRet (tTupN (tCons (tVar 4) (tCons (tVar 6) tNil)))))))
def t_law_wants (K : PySem.W.Frag) (w : World) : TS :=
  (tRet (tCB (rLenG K) (tCons (tIxG K w (tLc (iSeq K (tIxG K w (tVar 0) (tC (.int 0)))) (gTup K 3 (gCons (gName 2) (gCons (gName 3) (gCons (gName 4) gNil)))) (tTest (tOp (rEqG K) (tVar 2) (tVar 1))) (tVar 3) [2, 3, 4]) (tC (.int 0))) tNil)))
def t_law_into (K : PySem.W.Frag) (w : World) (s_law_wants : Sp) (s_law_called : Sp) : TS :=
  (tSeq (tAsg (tVar 1) (gTup K 2 (gCons (gName 4) (gCons (gName 5) gNil))))
  (tSeq (tIfS (tTest (tOp (rEqG K) (tIxG K w (tVar 4) (tC (.int 0))) (tC (.str "number")))) (tRet (tTupN (tCons (tC .non) (tCons (tTupN (tCons (tC (.str "number")) (tCons (tIxG K w (tVar 4) (tC (.int 1))) tNil))) tNil)))) tNext)
  (tSeq (tIfS (tTest (tOp (rEqG K) (tIxG K w (tVar 4) (tC (.int 0))) (tC (.str "pair")))) (tRet (tTupN (tCons (tC .non) (tCons (tTupN (tCons (tC (.str "pair")) (tCons (tTupN (tCons (tIxG K w (tVar 4) (tC (.int 1))) (tCons (tVar 5) tNil))) (tCons (tTupN (tCons (tIxG K w (tVar 4) (tC (.int 2))) (tCons (tVar 5) tNil))) tNil)))) tNil)))) tNext)
  (tSeq (tIfS (tTest (tOp (rEqG K) (tIxG K w (tVar 4) (tC (.int 0))) (tC (.str "name")))) (tSeq (tDrop (tBM K "list" rExtendG (tVar 3) (tCons (tSl (rSlG K) (tLstN (tCons (tC (.str "open")) (tCons (tC (.str "let")) tNil))) tNoPart (tPart (tOp (rAddG K) (tC (.int 1)) (tCB rIntG (tCons (tIxG K w (tIxG K w (tVar 5) (tIxG K w (tVar 4) (tC (.int 1)))) (tC (.int 2))) tNil))))) tNil)))
  (tRet (tTupN (tCons (tSl (rSlG K) (tIxG K w (tVar 5) (tIxG K w (tVar 4) (tC (.int 1)))) tNoPart (tPart (tC (.int 2)))) (tCons (tC .non) tNil))))) tNext)
  (tSeq (tIfS (tTest (tOp (rEqG K) (tIxG K w (tVar 4) (tC (.int 0))) (tC (.str "let")))) (tSeq (tDrop (tBM K "list" rAppendG (tVar 3) (tCons (tC (.str "let")) tNil)))
  (tSeq (tAsg (tCB rDictG (tCons (tVar 5) tNil)) (gName 6))
  (tSeq (tFor (iSeq K (tIxG K w (tVar 4) (tC (.int 1)))) (gTup K 2 (gCons (gName 7) (gCons (gName 8) gNil))) (tAsg (tTupN (tCons (tVar 8) (tCons (tVar 6) (tCons (tC (.bl true)) tNil)))) (gSub (tVar 6) (tVar 7) rSetG)))
  (tRet (tTupN (tCons (tTupN (tCons (tIxG K w (tVar 4) (tC (.int 2))) (tCons (tVar 6) tNil))) (tCons (tC .non) tNil))))))) tNext)
  (tSeq (tIfS (tAnd (tTest (tOp (rEqG K) (tIxG K w (tVar 4) (tC (.int 0))) (tC (.str "fun")))) (tTest (tOp (rEqG K) (tCall s_law_wants [] E0 (tCons (tVar 0) (tCons (tIxG K w (tVar 4) (tC (.int 1))) tNil))) (tC (.int 0))))) (tSeq (tDrop (tBM K "list" rAppendG (tVar 3) (tCons (tC (.str "call")) tNil)))
  (tRet (tTupN (tCons (tCall s_law_called [] E0 (tCons (tVar 0) (tCons (tIxG K w (tVar 4) (tC (.int 1))) (tCons (tLstN tNil) tNil)))) (tCons (tC .non) tNil))))) tNext)
  (tSeq (tIfS (tTest (tOp (rEqG K) (tIxG K w (tVar 4) (tC (.int 0))) (tC (.str "fun")))) (tRet (tTupN (tCons (tC .non) (tCons (tTupN (tCons (tC (.str "function")) (tCons (tIxG K w (tVar 4) (tC (.int 1))) (tCons (tLstN tNil) tNil)))) tNil)))) tNext)
  (tSeq (tDrop (tBM K "list" rAppendG (tVar 2) (tCons (tTupN (tCons (tVar 4) (tCons (tVar 5) tNil))) tNil)))
  (tRet (tTupN (tCons (tTupN (tCons (tIxG K w (tVar 4) (tC (.int 1))) (tCons (tVar 5) tNil))) (tCons (tC .non) tNil))))))))))))
def t_law_second (K : PySem.W.Frag) (w : World) : TS :=
  (tSeq (tIfS (tTest (tOp (rNeG K) (tIxG K w (tVar 2) (tC (.int 0))) (tC (.str "number")))) (tRet (tTupN (tCons (tC .non) (tCons (tC .non) (tCons (tC (.str "number")) tNil))))) tNext)
  (tSeq (tAsg (tIxG K w (tVar 2) (tC (.int 1))) (gName 4))
  (tSeq (tAsg (tIxG K w (tDispN (((tC (.str "plus")), (tOp (rAddG K) (tVar 1) (tVar 4))) :: (((tC (.str "less")), (tOp rSubG (tVar 1) (tVar 4))) :: (((tC (.str "times")), (tOp rMulG (tVar 1) (tVar 4))) :: (((tC (.str "below")), (tCB rIntG (tCons (tOp rLtG (tVar 1) (tVar 4)) tNil))) :: []))))) (tVar 0)) (gName 5))
  (tSeq (tIfS (tTest (tOp rGeG (tCB rAbsG (tCons (tVar 5) tNil)) (tOp rPowG (tC (.int 10)) (tC (.int 60))))) (tRet (tTupN (tCons (tC .non) (tCons (tC .non) (tCons (tC (.str "great")) tNil))))) tNext)
  (tSeq (tDrop (tBM K "list" rAppendG (tVar 3) (tCons (tC (.str "number")) tNil)))
  (tRet (tTupN (tCons (tC .non) (tCons (tTupN (tCons (tC (.str "number")) (tCons (tVar 5) tNil))) (tCons (tC (.str "")) tNil))))))))))
def t_law_out (K : PySem.W.Frag) (w : World) (s_law_second : Sp) (s_law_wants : Sp) (s_law_called : Sp) : TS :=
  (tSeq (tAsg (tVar 1) (gTup K 2 (gCons (gName 5) (gCons (gName 6) gNil))))
  (tSeq (tIfS (tTest (tOp (rEqG K) (tIxG K w (tVar 5) (tC (.int 0))) (tC (.str "second")))) (tRet (tCall s_law_second [] E0 (tCons (tIxG K w (tVar 5) (tC (.int 1))) (tCons (tIxG K w (tVar 5) (tC (.int 2))) (tCons (tVar 2) (tCons (tVar 4) tNil)))))) tNext)
  (tSeq (tIfS (tAnd (tTest (tOp (rEqG K) (tIxG K w (tVar 5) (tC (.int 0))) (tC (.str "give")))) (tTest (tOp (rEqG K) (tIxG K w (tVar 2) (tC (.int 0))) (tC (.str "function"))))) (tSeq (tAsg (tOp (rAddG K) (tIxG K w (tVar 2) (tC (.int 2))) (tLstN (tCons (tTupN (tCons (tIxG K w (tVar 5) (tC (.int 2))) (tCons (tVar 6) tNil))) tNil))) (gName 7))
  (tSeq (tIfS (tTest (tOp rLtG (tCB (rLenG K) (tCons (tVar 7) tNil)) (tCall s_law_wants [] E0 (tCons (tVar 0) (tCons (tIxG K w (tVar 2) (tC (.int 1))) tNil))))) (tRet (tTupN (tCons (tC .non) (tCons (tTupN (tCons (tC (.str "function")) (tCons (tIxG K w (tVar 2) (tC (.int 1))) (tCons (tVar 7) tNil)))) (tCons (tC (.str "")) tNil))))) tNext)
  (tSeq (tDrop (tBM K "list" rAppendG (tVar 4) (tCons (tC (.str "call")) tNil)))
  (tRet (tTupN (tCons (tCall s_law_called [] E0 (tCons (tVar 0) (tCons (tIxG K w (tVar 2) (tC (.int 1))) (tCons (tVar 7) tNil)))) (tCons (tC .non) (tCons (tC (.str "")) tNil)))))))) tNext)
  (tSeq (tIfS (tAnd (tTest (tOp (rInG K w false) (tIxG K w (tVar 5) (tC (.int 0))) (tTupN (tCons (tC (.str "left")) (tCons (tC (.str "right")) tNil))))) (tTest (tOp (rEqG K) (tIxG K w (tVar 2) (tC (.int 0))) (tC (.str "pair"))))) (tSeq (tDrop (tBM K "list" rAppendG (tVar 4) (tCons (tC (.str "side")) tNil)))
  (tRet (tTupN (tCons (tIxG K w (tVar 2) (tOp (rAddG K) (tC (.int 1)) (tCB rIntG (tCons (tOp (rEqG K) (tIxG K w (tVar 5) (tC (.int 0))) (tC (.str "right"))) tNil)))) (tCons (tC .non) (tCons (tC (.str "")) tNil)))))) tNext)
  (tSeq (tIfS (tOr (tTest (tOp (rInG K w false) (tIxG K w (tVar 5) (tC (.int 0))) (tTupN (tCons (tC (.str "give")) (tCons (tC (.str "left")) (tCons (tC (.str "right")) tNil)))))) (tTest (tOp (rNeG K) (tIxG K w (tVar 2) (tC (.int 0))) (tC (.str "number"))))) (tRet (tTupN (tCons (tC .non) (tCons (tC .non) (tCons (tDGet2 (tDispN (((tC (.str "give")), (tC (.str "function"))) :: (((tC (.str "left")), (tC (.str "pair"))) :: (((tC (.str "right")), (tC (.str "pair"))) :: [])))) (tIxG K w (tVar 5) (tC (.int 0))) (tC (.str "number"))) tNil))))) tNext)
  (tSeq (tIfS (tTest (tOp (rEqG K) (tIxG K w (tVar 5) (tC (.int 0))) (tC (.str "when")))) (tSeq (tDrop (tBM K "list" rAppendG (tVar 4) (tCons (tC (.str "turn")) tNil)))
  (tRet (tTupN (tCons (tTupN (tCons (tIxG K w (tVar 5) (tOp (rAddG K) (tC (.int 2)) (tCB rIntG (tCons (tOp (rEqG K) (tIxG K w (tVar 2) (tC (.int 1))) (tC (.int 0))) tNil)))) (tCons (tVar 6) tNil))) (tCons (tC .non) (tCons (tC (.str "")) tNil)))))) tNext)
  (tSeq (tDrop (tBM K "list" rAppendG (tVar 3) (tCons (tTupN (tCons (tTupN (tCons (tC (.str "second")) (tCons (tIxG K w (tVar 5) (tC (.int 0))) (tCons (tIxG K w (tVar 2) (tC (.int 1))) tNil)))) (tCons (tDNewKN) tNil))) tNil)))
  (tRet (tTupN (tCons (tTupN (tCons (tIxG K w (tVar 5) (tC (.int 2))) (tCons (tVar 6) tNil))) (tCons (tC .non) (tCons (tC (.str "")) tNil))))))))))))
def t_law_come (K : PySem.W.Frag) (w : World) (s_law_into : Sp) (s_law_out : Sp) : TS :=
  (tSeq (tAsg (tLstN tNil) (gName 3))
  (tSeq (tAsg (tLstN tNil) (gName 4))
  (tSeq (tAsg (tC .non) (gName 5))
  (tSeq (tWhile (tTest (tOp rLeG (tCB (rLenG K) (tCons (tVar 4) tNil)) (tVar 2))) (tIfS (tTest (tOp (rIsG false) (tVar 5) (tC .non))) (tAsg (tCall s_law_into [] E0 (tCons (tVar 0) (tCons (tVar 1) (tCons (tVar 3) (tCons (tVar 4) tNil))))) (gTup K 2 (gCons (gName 1) (gCons (gName 5) gNil)))) (tIfS (tTest (tOp (rEqG K) (tVar 3) (tLstN tNil))) (tRet (tTupN (tCons (tC (.str "worth")) (tCons (tVar 5) (tCons (tVar 4) tNil))))) (tSeq (tAsg (tCall s_law_out [] E0 (tCons (tVar 0) (tCons (tBM0 K "list" rPopG (tVar 3)) (tCons (tVar 5) (tCons (tVar 3) (tCons (tVar 4) tNil)))))) (gTup K 3 (gCons (gName 1) (gCons (gName 5) (gCons (gName 6) gNil)))))
  (tIfS (tTest (tOp (rNeG K) (tVar 6) (tC (.str "")))) (tRet (tTupN (tCons (tC (.str "fault")) (tCons (tVar 6) (tCons (tVar 4) tNil))))) tNext)))))
  (tRet (tTupN (tCons (tC (.str "more")) (tCons (tC .non) (tCons (tSl (rSlG K) (tVar 4) tNoPart (tPart (tVar 2))) tNil)))))))))
def t_law_end (K : PySem.W.Frag) (w : World) (s_law_draw : Sp) : TS :=
  (tSeq (tPar 1 2 (tCons (tTupN (tCons (tC (.str "number")) (tCons (tCall s_law_draw [] E0 (tCons (tVar 0) (tCons (tC (.int 3)) tNil))) tNil))) (tCons (tTupN (tCons (tC (.str "pair")) (tCons (tTupN (tCons (tC (.str "number")) (tCons (tC (.int 1)) tNil))) (tCons (tTupN (tCons (tC (.str "left")) (tCons (tTupN (tCons (tC (.str "number")) (tCons (tC (.int 2)) tNil))) tNil))) tNil)))) tNil)))
  (tSeq (tAsg (tTupN (tCons (tC (.str "number")) (tCons (tOp rSubG (tOp rSubG (tOp rPowG (tC (.int 10)) (tC (.int 60))) (tC (.int 1))) (tCall s_law_draw [] E0 (tCons (tVar 0) (tCons (tC (.int 2)) tNil)))) tNil))) (gName 3))
  (tSeq (tAsg (tLstN (tCons (tVar 1) (tCons (tVar 2) (tCons (tTupN (tCons (tC (.str "fun")) (tCons (tC (.str "of")) tNil))) (tCons (tTupN (tCons (tC (.str "give")) (tCons (tTupN (tCons (tC (.str "fun")) (tCons (tC (.str "of")) tNil))) (tCons (tVar 2) tNil)))) (tCons (tTupN (tCons (tC (.str "fun")) (tCons (tC (.str "on")) tNil))) (tCons (tVar 3) (tCons (tTupN (tCons (tC (.str "number")) (tCons (tOp rPowG (tC (.int 10)) (tC (.int 30))) tNil))) tNil)))))))) (gName 4))
  (tSeq (tAsg (tOp (rAddG K) (tVar 4) (tLstN (tCons (tTupN (tCons (tC (.str "left")) (tCons (tVar 1) tNil))) (tCons (tTupN (tCons (tC (.str "give")) (tCons (tVar 1) (tCons (tVar 2) tNil)))) (tCons (tTupN (tCons (tC (.str "plus")) (tCons (tVar 2) (tCons (tVar 1) tNil)))) (tCons (tTupN (tCons (tC (.str "plus")) (tCons (tVar 3) (tCons (tVar 3) tNil)))) tNil)))))) (gName 4))
  (tSeq (tAsg (tOp (rAddG K) (tVar 4) (tLstN (tCons (tTupN (tCons (tC (.str "give")) (tCons (tTupN (tCons (tC (.str "give")) (tCons (tTupN (tCons (tC (.str "fun")) (tCons (tC (.str "of")) tNil))) (tCons (tVar 1) tNil)))) (tCons (tVar 2) tNil)))) (tCons (tTupN (tCons (tC (.str "times")) (tCons (tTupN (tCons (tC (.str "number")) (tCons (tOp rPowG (tC (.int 10)) (tC (.int 30))) tNil))) (tCons (tTupN (tCons (tC (.str "number")) (tCons (tOp rPowG (tC (.int 10)) (tC (.int 30))) tNil))) tNil)))) tNil)))) (gName 4))
  (tSeq (tAsg (tOp (rAddG K) (tVar 4) (tLstN (tCons (tTupN (tCons (tC (.str "when")) (tCons (tVar 2) (tCons (tVar 1) (tCons (tVar 1) tNil))))) (tCons (tTupN (tCons (tC (.str "less")) (tCons (tVar 1) (tCons (tVar 3) tNil)))) (tCons (tTupN (tCons (tC (.str "right")) (tCons (tVar 2) tNil))) (tCons (tTupN (tCons (tC (.str "left")) (tCons (tVar 2) tNil))) tNil)))))) (gName 4))
  (tSeq (tAsg (tOp (rAddG K) (tVar 4) (tLstN (tCons (tTupN (tCons (tC (.str "below")) (tCons (tVar 1) (tCons (tVar 3) tNil)))) (tCons (tTupN (tCons (tC (.str "plus")) (tCons (tVar 1) (tCons (tVar 2) tNil)))) tNil)))) (gName 4))
  (tRet (tIxG K w (tVar 4) (tCall s_law_draw [] E0 (tCons (tVar 0) (tCons (tCB (rLenG K) (tCons (tVar 4) tNil)) tNil))))))))))))
def t_law_mixed (K : PySem.W.Frag) (w : World) (s_law_end : Sp) (s_law_draw : Sp) (s_law_mixed : Sp) : TS :=
  (tSeq (tIfS (tTest (tOp (rEqG K) (tVar 1) (tC (.int 0)))) (tRet (tCall s_law_end [] E0 (tCons (tVar 0) tNil))) tNext)
  (tSeq (tAsg (tIxG K w (tLstN (tCons (tC (.str "give")) (tCons (tC (.str "plus")) (tCons (tC (.str "less")) (tCons (tC (.str "times")) (tCons (tC (.str "below")) (tCons (tC (.str "when")) (tCons (tC (.str "pair")) (tCons (tC (.str "left")) (tCons (tC (.str "right")) (tCons (tC (.str "let")) tNil))))))))))) (tCall s_law_draw [] E0 (tCons (tVar 0) (tCons (tC (.int 10)) tNil)))) (gName 3))
  (tSeq (tAsg (tCall s_law_mixed [] E0 (tCons (tVar 0) (tCons (tOp rSubG (tVar 1) (tC (.int 1))) (tCons (tVar 2) tNil)))) (gName 4))
  (tSeq (tIfS (tTest (tOp (rInG K w false) (tVar 3) (tTupN (tCons (tC (.str "left")) (tCons (tC (.str "right")) tNil))))) (tRet (tTupN (tCons (tVar 3) (tCons (tVar 4) tNil)))) tNext)
  (tSeq (tAsg (tCall s_law_mixed [] E0 (tCons (tVar 0) (tCons (tOp rSubG (tVar 1) (tC (.int 1))) (tCons (tVar 2) tNil)))) (gName 5))
  (tSeq (tIfS (tTest (tOp (rEqG K) (tVar 3) (tC (.str "let")))) (tSeq (tAsg (tBM0 K "list" rPopG (tVar 2)) (gName 6))
  (tRet (tTupN (tCons (tC (.str "let")) (tCons (tTupN (tCons (tTupN (tCons (tVar 6) (tCons (tVar 4) tNil))) tNil)) (tCons (tTupN (tCons (tC (.str "plus")) (tCons (tTupN (tCons (tC (.str "name")) (tCons (tVar 6) tNil))) (tCons (tVar 5) tNil)))) tNil)))))) tNext)
  (tRet (tIf (tTest (tOp (rEqG K) (tVar 3) (tC (.str "when")))) (tTupN (tCons (tVar 3) (tCons (tVar 4) (tCons (tVar 5) (tCons (tCall s_law_end [] E0 (tCons (tVar 0) tNil)) tNil))))) (tTupN (tCons (tVar 3) (tCons (tVar 4) (tCons (tVar 5) tNil))))))))))))
def t_law (K : PySem.W.Frag) (w : World) (s_law_pen : Sp) (s_law_mixed : Sp) (s_law_draw : Sp) (s_law_come : Sp) (s_led : Sp) : TS :=
  (tSeq (tAsg (tCall s_law_pen [] E0 (tCons (tVar 0) tNil)) (gName 1))
  (tSeq (tAsg (tTupN (tCons (tTupN (tCons (tC (.str "of")) (tCons (tTupN (tCons (tC (.str "a")) (tCons (tC (.str "b")) tNil))) (tCons (tTupN (tCons (tC (.str "pair")) (tCons (tTupN (tCons (tC (.str "name")) (tCons (tC (.str "b")) tNil))) (tCons (tTupN (tCons (tC (.str "name")) (tCons (tC (.str "a")) tNil))) tNil)))) tNil)))) (tCons (tTupN (tCons (tC (.str "on")) (tCons (tTupN tNil) (tCons (tTupN (tCons (tC (.str "fun")) (tCons (tC (.str "on")) tNil))) tNil)))) tNil))) (gName 2))
  (tSeq (tFor (iRng1 (tCons (tCB rMax2 (tCons (tC (.int 1)) (tCons (tCB rMin2 (tCons (tC (.int 20)) (tCons (tCB (rLenG K) (tCons (tVar 0) tNil)) tNil))) tNil))) tNil)) (gName 3) (tSeq (tAsg (tCall s_law_mixed [] E0 (tCons (tVar 1) (tCons (tOp (rAddG K) (tC (.int 1)) (tCall s_law_draw [] E0 (tCons (tVar 1) (tCons (tC (.int 2)) tNil)))) (tCons (tLstN (tCons (tC (.str "u")) (tCons (tC (.str "v")) (tCons (tC (.str "w")) tNil)))) tNil)))) (gName 4))
  (tSeq (tAsg (tTupN (tCons (tVar 2) (tCons (tVar 4) tNil))) (gName 5))
  (tSeq (tAsg (tCall s_law_come [] E0 (tCons (tVar 5) (tCons (tTupN (tCons (tVar 4) (tCons (tDNewKN) tNil))) (tCons (tC (.int 24)) tNil)))) (gTup K 3 (gCons (gName 6) (gCons (gName 7) (gCons (gName 8) gNil)))))
  (tSeq (tAsg (tIf (tTest (tOp (rEqG K) (tVar 6) (tC (.str "more")))) (tTupN (tCons (tVar 6) tNil)) (tTupN (tCons (tC (.str "fault")) (tCons (tVar 7) tNil)))) (gName 9))
  (tSeq (tIfS (tTest (tOp (rEqG K) (tVar 6) (tC (.str "worth")))) (tAsg (tIf (tTest (tOp (rEqG K) (tIxG K w (tVar 7) (tC (.int 0))) (tC (.str "number")))) (tVar 7) (tTupN (tCons (tC (.str "pair")) tNil))) (gName 9)) tNext)
  (tSeq (tIfS (tAnd (tTest (tOp (rEqG K) (tVar 6) (tC (.str "worth")))) (tTest (tOp (rEqG K) (tIxG K w (tVar 7) (tC (.int 0))) (tC (.str "function"))))) (tAsg (tTupN (tCons (tC (.str "function")) (tCons (tIxG K w (tVar 7) (tC (.int 1))) (tCons (tCB (rLenG K) (tCons (tIxG K w (tVar 7) (tC (.int 2))) tNil)) tNil)))) (gName 9)) tNext)
  (tIfS (tTest (tOp (rNeG K) (tCall s_led [] E0 (tCons (tVar 5) (tCons (tVar 4) (tCons (tC (.int 24)) tNil)))) (tTupN (tCons (tVar 9) (tCons (tVar 8) tNil))))) (tRet (tC (.bl false))) tNext))))))))
  (tRet (tC (.bl true))))))
/-! ### the draws -/
theorem pen_ne {H : Hp} {pen L : Addr} {ns : List Int} {i j : Int} (hp : H pen = some (.lst [.ref L, .int i, .int j])) (hL : H L = some (.lst (ns.map V.int))) : L ≠ pen := by
  rintro rfl
  rw [hL] at hp
  have := congrArg (fun o => match o with | some (HO.lst (x :: _)) => (match x with | .ref _ => true | _ => false) | _ => false) hp
  cases ns <;> simp at this
/-- a pen: the script's list L, the turn, what is left of a great number -/
def PenAt (H : Hp) (pen L : Addr) : Prop := ∃ (ns : List Int) (at_ rest : Int), H pen = some (.lst [.ref L, .int at_, .int rest]) ∧ H L = some (.lst (ns.map V.int)) ∧ 0 ≤ at_ ∧ 0 ≤ rest ∧ ns.length ≤ 63
section
variable {H H' : Hp} {pen L d : Addr}
theorem PenAt.same (h : PenAt H pen L) (s : Same H H') : PenAt H' pen L := by
  obtain ⟨ns, a, r, hp, hL, x⟩ := h
  exact ⟨ns, a, r, s _ _ hp, s _ _ hL, x⟩
/-- a pen stays where another object changes -/
theorem PenAt.chg (h : PenAt H pen L) (c : Chg d H H') (n1 : pen ≠ d) (n2 : L ≠ d) : PenAt H' pen L := by
  obtain ⟨ns, a, r, hp, hL, x⟩ := h
  exact ⟨ns, a, r, c _ _ n1 hp, c _ _ n2 hL, x⟩
theorem PenAt.ne (h : PenAt H pen L) (hd : H d = none) : pen ≠ d ∧ L ≠ d := by
  obtain ⟨ns, a, r, hp, hL, x⟩ := h
  exact ⟨ne_of_none hp hd, ne_of_none hL hd⟩
end
def spDraw : Sp := fun vs H Q _ => ∃ (pen L : Addr) (many : Int), vs = [.ref pen, .int many] ∧ PenAt H pen L ∧ 0 < many ∧ many.natAbs < 2 ^ 250 ∧
  ∀ (v : Int) (H' : Hp), 0 ≤ v → v < many → PenAt H' pen L → Chg pen H H' → Q (.int v) H'
theorem g_draw {H : Hp} {Q : VK} {E : XK} {pen L : Addr} {many : Int} (h : PenAt H pen L) (h0 : 0 < many) (h1 : many.natAbs < 2 ^ 250) (q : ∀ (v : Int) (H' : Hp), 0 ≤ v → v < many → PenAt H' pen L → Chg pen H H' → Q (.int v) H') :
    spDraw ([.ref pen, .int many] ++ []) H Q E := ⟨pen, L, many, rfl, h, h0, h1, q⟩
theorem pure_draw {K : PySem.W.Frag} {w : World} : PureOk 2 spDraw (t_law_draw K w) 7 := by
  refine ⟨fun vs H Q E ⟨pen, L, many, e, _⟩ => by rw [e]; rfl, ?_⟩
  rintro vs H Q E ⟨pen, L, many, rfl, ⟨ns, at_, rest, hp, hL, h0, h1, hl⟩, hm, hmb, q'⟩
  have hne : L ≠ pen := pen_ne hp hL
  have q : ∀ (v a' r' : Int) (H' : Hp), 0 ≤ v → v < many → 0 ≤ a' → 0 ≤ r' → H' pen = some (.lst [.ref L, .int a', .int r']) → Chg pen H H' → Q (.int v) H' :=
    fun v a' r' H' v0 v1 a0 r0 e c => q' v H' v0 v1 ⟨ns, a', r', e, c L _ hne hL, a0, r0, hl⟩ c
  have hdw : ∀ x, CDivW x many := fun x => wide_div hm hmb (by decide) (by decide)
  have mod0 : ∀ x : Int, 0 ≤ x % many := fun x => Int.emod_nonneg x (Int.ne_of_gt hm)
  have mod1 : ∀ x : Int, x % many < many := fun x => Int.emod_lt_of_pos x hm
  show t_law_draw K w _ [some (.ref pen), some (.int many), none, none, none, none, none] H
  unfold t_law_draw
  walk_at "go"
  refine g_ite (fun hr => ?_) (fun _ => ?_)
  · walk_at "go"
    refine g_modI hm ?_
    walk_at "go"
    refine g_divI (hdw _) ?_
    walk_at "go"
    refine g_setL hp rfl fun H' e1 c1 => ?_
    walk_at "go"
    exact q _ at_ (rest / many) H' (mod0 _) (mod1 _) h0 (Int.ediv_nonneg h1 (Int.le_of_lt hm)) e1 c1
  · walk_at "go"
    refine g_setL hp rfl fun H1 e1 c1 => ?_
    have hL1 := c1 L _ hne hL
    walk_at "go"
    intro p H2 np e2 s2
    have hL2 := s2 _ _ hL1
    have hp2 := s2 _ _ e1
    walk_at "go"
    refine g_addL hL2 e2 (by show _ ≤ 16777216; simp; omega) fun p' H3 np' e3 s3 => ?_
    have hL3 := s3 _ _ hL2
    have hp3 := s3 _ _ hp2
    walk_at "go"
    refine g_lenL (.of hL3) ?_
    walk_at "go"
    refine g_modI (by omega) ?_
    have hat : ∃ c : Int, atI (List.map V.int ns ++ [V.int 7]) (at_ % max 1 ((List.map V.int ns).length : Int)) = some (.int c) := by
      have a0 := Int.emod_nonneg at_ (b := max 1 ((List.map V.int ns).length : Int)) (by omega)
      have a1 := Int.emod_lt_of_pos at_ (b := max 1 ((List.map V.int ns).length : Int)) (by omega)
      obtain ⟨v, h1, h2, _⟩ := atI_in (xs := List.map V.int ns ++ [V.int 7]) a0 (by rw [List.length_append, List.length_singleton]; omega)
      rw [List.mem_append, List.mem_map] at h2
      rcases h2 with ⟨c, _, rfl⟩ | h2
      · exact ⟨c, h1⟩
      · rw [List.mem_singleton] at h2
        exact ⟨7, h2 ▸ h1⟩
    obtain ⟨c, hc⟩ := hat
    refine g_ixL (.of e3) hc ?_
    walk_at "go"
    refine g_lenL (.of hL3) ?_
    walk_at "go"
    refine g_cut (B := ?B) ?f ?b
    case f =>
      intro tail
      refine g_ite (fun _ => ?_) (fun _ => ?_)
      · walk_at "go"
        refine g_powI ⟨by decide, by decide, by decide⟩ ?_
        walk_at "go"
        refine g_ite (fun hbig => ?_) (fun _ => ?_)
        · walk_at "go"
          refine g_divI (hdw _) ?_
          walk_at "go"
          refine g_setL hp3 rfl fun H4 e4 c4 => ?_
          walk_at "go"
          refine g_modI hm ?_
          exact q _ (at_ + 1) (c.natAbs / many) H4 (mod0 _) (mod1 _) (by omega) (Int.ediv_nonneg (by omega) (Int.le_of_lt hm)) e4 ((c1.trans (.same s2)).trans ((Chg.same s3).trans c4))
        · exact tail.out
      · refine g_F rfl ?_
        exact tail.out
    case b =>
      walk_at "go"
      intro p4 H4 np4 e4 s4
      walk_at "go"
      refine g_modI (by decide) ?_
      obtain ⟨pr, hpr, hmem⟩ : ∃ pr : Int, atI [V.int 2147483647, V.int 2147483629, V.int 2147483587, V.int 2147483579, V.int 2147483563, V.int 2147483549, V.int 2147483543] (at_ % 7) = some (.int pr) ∧ 0 < pr ∧ pr < 2 ^ 31 := by
        obtain ⟨v, h1, h2, _⟩ := atI_in (xs := [V.int 2147483647, V.int 2147483629, V.int 2147483587, V.int 2147483579, V.int 2147483563, V.int 2147483549, V.int 2147483543]) (Int.emod_nonneg at_ (by decide)) (Int.emod_lt_of_pos at_ (b := 7) (by decide))
        simp only [List.mem_cons, List.not_mem_nil, or_false] at h2
        rcases h2 with rfl | rfl | rfl | rfl | rfl | rfl | rfl <;> exact ⟨_, h1, by decide, by decide⟩
      refine g_ixL (.of e4) hpr ?_
      walk_at "go"
      refine g_modI (by decide) ?_
      walk_at "go"
      refine g_mulI (.inl ⟨by decide, by decide⟩) ?_
      walk_at "go"
      refine g_mulI (.inr ⟨by decide, by decide⟩) ?_
      walk_at "go"
      refine g_modI hmem.1 ?_
      have x0 := Int.emod_nonneg ((c % 2147483497 + 69621 * at_ + 13) * 48271) (Int.ne_of_gt hmem.1)
      have x1 := Int.emod_lt_of_pos ((c % 2147483497 + 69621 * at_ + 13) * 48271) hmem.1
      generalize (c % 2147483497 + 69621 * at_ + 13) * 48271 % pr = x at x0 x1
      walk_at "go"
      refine g_mulI (.inl ⟨by omega, by omega⟩) ?_
      walk_at "go"
      refine g_mulI (.inl ⟨by decide, by decide⟩) ?_
      walk_at "go"
      refine g_modI (by decide) ?_
      have y0 := Int.emod_nonneg (x * x + 40692 * x + at_) (b := 2147483489) (by decide)
      have y1 := Int.emod_lt_of_pos (x * x + 40692 * x + at_) (b := 2147483489) (by decide)
      generalize (x * x + 40692 * x + at_) % 2147483489 = y at y0 y1
      walk_at "go"
      refine g_mulI (.inl ⟨by omega, by omega⟩) ?_
      walk_at "go"
      refine g_modI (by decide) ?_
      have z0 := Int.emod_nonneg (y * 16807) (b := 2147483477) (by decide)
      have z1 := Int.emod_lt_of_pos (y * 16807) (b := 2147483477) (by decide)
      generalize y * 16807 % 2147483477 = z at z0 z1
      have fin : ∀ u : Int, Q (.int (u / 32 % many)) H4 := fun u =>
        q _ (at_ + 1) rest H4 (mod0 _) (mod1 _) (by omega) h1 (s4 _ _ hp3) ((c1.trans (.same s2)).trans ((Chg.same s3).trans (.same s4)))
      walk_at "go"
      refine g_divI ⟨by decide, by decide⟩ ?_
      walk_at "go"
      exact g_modI hm (fin _)


/-! ### names -/
open SX in
theorem letters_eq : (Str.ofString "abcdefghijklmnopqrstuvwxyz").cps.toList = (List.range 26).map (97 + ·) := by decide +kernel
theorem letter_at {i : Int} (h0 : 0 ≤ i) (h1 : i < 26) : atI (Str.ofString "abcdefghijklmnopqrstuvwxyz").cps.toList i = some (97 + i.toNat) := by
  refine atI_of h0 ?_
  rw [letters_eq, List.getElem?_map, List.getElem?_range (by omega)]
  rfl
theorem letters_len : (Str.ofString "abcdefghijklmnopqrstuvwxyz").length ≤ sizeLine := by
  show (Str.ofString "abcdefghijklmnopqrstuvwxyz").cps.size ≤ _
  rw [← Array.length_toList, letters_eq, List.length_map, List.length_range]
  show 26 ≤ 16777216
  omega
theorem sum_ones : ∀ cs : List Nat, ((cs.map fun c => SX.S [c]).map (·.length)).sum = cs.length
  | [] => rfl
  | c :: cs => by
    rw [List.map_cons, List.map_cons, List.sum_cons, sum_ones cs, SX.S_len, List.length_cons, List.length_cons, List.length_nil]
    omega
/-- the k-th name: the word with another letter at a place -/
def nameK (cs : List Nat) (at_ first by_ k : Nat) : Str := SX.S (cs.take at_ ++ [97 + (first + by_ * k) % 26] ++ cs.drop (at_ + 1))
theorem cutS_to (cs : List Nat) (n : Nat) (h : n ≤ cs.length) : cutS (SX.S cs) none (some (n : Int)) = SX.S (cs.take n) := by
  unfold cutS
  rw [HT.sIx_none, HT.sIx_nat, SX.S_len, Nat.min_eq_left h]
  rfl
theorem cutS_from (cs : List Nat) (n : Nat) (h : n ≤ cs.length) : cutS (SX.S cs) (some (n : Int)) none = SX.S (cs.drop n) := by
  unfold cutS
  rw [HT.sIx_none, HT.sIx_nat, SX.S_len, Nat.min_eq_left h]
  show SX.S ((cs.drop n).take (cs.length - n)) = _
  rw [List.take_of_length_le (by rw [List.length_drop]; omega)]
theorem nameK_is {cs : List Nat} {at_ first by_ k : Nat} (h : at_ < cs.length) (h8 : cs.length ≤ 8) (hc : ∀ c ∈ cs, 97 ≤ c ∧ c < 123) : isName (nameK cs at_ first by_ k) := by
  refine ⟨?_, ?_, ?_⟩
  · rw [nameK, SX.S_len]
    simp only [List.length_append, List.length_take, List.length_drop, List.length_singleton]
    omega
  · rw [nameK, SX.S_len]
    simp only [List.length_append, List.length_take, List.length_drop, List.length_singleton]
    omega
  · intro c hm
    have hm' : c ∈ cs.take at_ ++ [97 + (first + by_ * k) % 26] ++ cs.drop (at_ + 1) := hm
    simp only [List.mem_append, List.mem_singleton] at hm'
    rcases hm' with (hm' | rfl) | hm'
    · exact hc c (List.mem_of_mem_take hm')
    · omega
    · exact hc c (List.mem_of_mem_drop hm')
theorem nameK_inj {cs : List Nat} {at_ first by_ j k : Nat} (h : at_ < cs.length) (hb : by_ ∈ [1, 3, 5, 7, 9, 11]) (hj : j < 26) (hk : k < 26) (e : nameK cs at_ first by_ j = nameK cs at_ first by_ k) : j = k := by
  have e1 := SX.S_inj e
  rw [List.append_assoc, List.append_assoc] at e1
  have e2 := List.append_cancel_left e1
  simp only [List.singleton_append, List.cons.injEq, and_true] at e2
  simp only [List.mem_cons, List.not_mem_nil, or_false] at hb
  rcases hb with rfl | rfl | rfl | rfl | rfl | rfl <;> omega
def spNames : Sp := fun vs H Q _ => ∃ (pen L : Addr) (many : Int), vs = [.ref pen, .int many] ∧ PenAt H pen L ∧ 0 ≤ many ∧ many ≤ 26 ∧
  ∀ (d : Addr) (ss : List Str) (H' : Hp), (ss.length : Int) = many → (∀ s ∈ ss, isName s) → ss.Nodup → H d = none → H' d = some (.lst (ss.map V.str)) → PenAt H' pen L → Chg pen H H' → Q (.ref d) H'

/-! ### pens, numbers -/
def spPen (K : PySem.W.Frag) : Sp := fun vs H Q _ => ∃ (a : Addr) (ns : List Int), vs = [.ref a] ∧ SqL K H a (ns.map V.int) ∧ ns.length ≤ 63 ∧ ∀ (pen L : Addr) (H' : Hp), H pen = none → H L = none → PenAt H' pen L → Same H H' → Q (.ref pen) H'
theorem pure_pen {K : PySem.W.Frag} {w : World} : PureOk 1 (spPen K) (t_law_pen K w) 1 := by
  refine ⟨fun vs H Q E ⟨a, ns, e, _⟩ => by rw [e]; rfl, ?_⟩
  rintro vs H Q E ⟨a, ns, rfl, hS, hl, q⟩
  show t_law_pen K w _ [some (.ref a)] H
  unfold t_law_pen
  walk_at "go"
  refine g_slL hS fun p1 H1 n1 e1 s1 => ?_
  walk_at "go"
  refine g_listL (.of e1) fun p2 H2 n2 e2 s2 => ?_
  walk_at "go"
  intro p3 H3 n3 e3 s3
  have ec : cutV (ns.map V.int) none (some 63) = ns.map V.int := by
    unfold cutV
    rw [HT.sIx_none, show (63 : Int) = ((63 : Nat) : Int) from rfl, HT.sIx_nat, List.length_map, Nat.min_eq_right hl]
    show (ns.map V.int).take ns.length = _
    rw [List.take_of_length_le (by rw [List.length_map]; exact Nat.le_refl _)]
  rw [ec] at e2
  refine q p3 p2 H3 (s1.free (s2.free n3)) (s1.free n2) ⟨ns, 0, 0, e3, s3 _ _ e2, by decide, by decide, hl⟩ (s1.trans (s2.trans s3))

def spNumber : Sp := fun vs H Q _ => ∃ (pen L : Addr), vs = [.ref pen] ∧ PenAt H pen L ∧ ∀ (n : Int) (H' : Hp), n.natAbs < 10 ^ 60 → PenAt H' pen L → Chg pen H H' → Q (.int n) H'

/-! ### drawing parts: the state -/
/-- what may change while a part is drawn -/
structure Fix (pen left stock b : Addr) : Prop where
  p : b ≠ pen
  l : b ≠ left
  s : b ≠ stock
def Chg3 (pen left stock : Addr) (H H' : Hp) : Prop := ∀ b o, Fix pen left stock b → H b = some o → H' b = some o
structure RoomAt (H : Hp) (pen L left stock : Addr) (n : Int) (st : List Str) : Prop where
  pe : PenAt H pen L
  le : H left = some (.lst [.int n])
  sk : H stock = some (.lst (st.map V.str))
  lp : left ≠ pen
  lL : left ≠ L
  sp : stock ≠ pen
  sL : stock ≠ L
  ls : left ≠ stock
section
variable {H H' H1 : Hp} {pen L left stock b : Addr} {n : Int} {st : List Str}
theorem Chg3.refl : Chg3 pen left stock H H := fun _ _ _ e => e
theorem Chg3.trans (h : Chg3 pen left stock H H1) (h' : Chg3 pen left stock H1 H') : Chg3 pen left stock H H' := fun b o f e => h' b o f (h b o f e)
theorem Chg3.ofp (h : Chg pen H H') : Chg3 pen left stock H H' := fun b o f e => h b o f.p e
theorem Chg3.ofl (h : Chg left H H') : Chg3 pen left stock H H' := fun b o f e => h b o f.l e
theorem Chg3.ofs (h : Chg stock H H') : Chg3 pen left stock H H' := fun b o f e => h b o f.s e
theorem Chg3.same (h : Same H H') : Chg3 pen left stock H H' := fun b o _ e => h b o e
theorem RoomAt.new (r : RoomAt H pen L left stock n st) (hb : H b = none) : Fix pen left stock b :=
  ⟨fun e => (by obtain ⟨ns, a, x, hp, _⟩ := r.pe; rw [e, hp] at hb; cases hb), fun e => (by have := r.le; rw [← e, hb] at this; cases this), fun e => (by have := r.sk; rw [← e, hb] at this; cases this)⟩
theorem RoomAt.fixL (r : RoomAt H pen L left stock n st) : Fix pen left stock L :=
  ⟨fun e => by obtain ⟨ns, a, x, hp, hL, _⟩ := r.pe; exact pen_ne hp hL e, fun e => r.lL e.symm, fun e => r.sL e.symm⟩
theorem RoomAt.same (r : RoomAt H pen L left stock n st) (s : Same H H') : RoomAt H' pen L left stock n st :=
  ⟨r.pe.same s, s _ _ r.le, s _ _ r.sk, r.lp, r.lL, r.sp, r.sL, r.ls⟩
theorem RoomAt.draw (r : RoomAt H pen L left stock n st) (h : PenAt H' pen L) (c : Chg pen H H') : RoomAt H' pen L left stock n st :=
  ⟨h, c _ _ r.lp r.le, c _ _ r.sp r.sk, r.lp, r.lL, r.sp, r.sL, r.ls⟩
theorem RoomAt.setLeft {m : Int} (r : RoomAt H pen L left stock n st) (h : H' left = some (.lst [.int m])) (c : Chg left H H') : RoomAt H' pen L left stock m st :=
  ⟨r.pe.chg c r.lp.symm r.lL.symm, h, c _ _ r.ls.symm r.sk, r.lp, r.lL, r.sp, r.sL, r.ls⟩
theorem RoomAt.setStock {su : List Str} (r : RoomAt H pen L left stock n st) (h : H' stock = some (.lst (su.map V.str))) (c : Chg stock H H') : RoomAt H' pen L left stock n su :=
  ⟨r.pe.chg c r.sp.symm r.sL.symm, c _ _ r.ls r.le, h, r.lp, r.lL, r.sp, r.sL, r.ls⟩
/-- another object changes -/
theorem RoomAt.chg (r : RoomAt H pen L left stock n st) (c : Chg b H H') (f : Fix pen left stock b) (fL : L ≠ b) : RoomAt H' pen L left stock n st :=
  ⟨r.pe.chg c f.p.symm fL, c _ _ f.l.symm r.le, c _ _ f.s.symm r.sk, r.lp, r.lL, r.sp, r.sL, r.ls⟩
theorem RoomAt.tk {m : Int} {su : List Str} (r : RoomAt H pen L left stock n st) (c : Chg3 pen left stock H H') (r' : RoomAt H' pen L left stock m su) : Tk H H' := fun b xs e => c b _
  ⟨fun z => (by obtain ⟨ns, a, x, hp, _⟩ := r.pe; rw [z, hp] at e; cases e), fun z => (by rw [z, r.le] at e; cases e), fun z => (by rw [z, r.sk] at e; cases e)⟩ e
end
/-- the functions that a part may name, with how many things they want -/
def WorldAt (H : Hp) (world : Addr) (W : List (Str × Nat)) : Prop := ∃ xs, H world = some (.lst xs) ∧ Tps H xs (W.map fun q => .tuple [.str q.1, .int q.2])
def WorldOk (W : List (Str × Nat)) : Prop := W.length ≤ 8 ∧ ∀ q ∈ W, isName q.1 ∧ q.2 ≤ 4
theorem WorldAt.mono {H H' : Hp} {world : Addr} {W : List (Str × Nat)} (h : WorldAt H world W) (k : Tk H H') (c : ∀ o, H world = some o → H' world = some o) : WorldAt H' world W := by
  obtain ⟨xs, e, t⟩ := h
  exact ⟨xs, c _ e, t.mono k⟩
/-- all that a part's drawing leans on -/
structure GenAt (H : Hp) (pen L world scope left stock : Addr) (W : List (Str × Nat)) (sc : List Str) (n : Int) (st : List Str) : Prop where
  r : RoomAt H pen L left stock n st
  w : WorldAt H world W
  gsc : H scope = some (.lst (sc.map V.str))
  fw : Fix pen left stock world
  fs : Fix pen left stock scope
section
variable {H H' H1 : Hp} {pen L world scope left stock b : Addr} {W : List (Str × Nat)} {sc : List Str} {n : Int} {st : List Str}
theorem GenAt.same (g : GenAt H pen L world scope left stock W sc n st) (s : Same H H') : GenAt H' pen L world scope left stock W sc n st :=
  ⟨g.r.same s, g.w.mono (Same.tk s) (fun o e => s _ _ e), s _ _ g.gsc, g.fw, g.fs⟩
/-- behind anything that keeps all but the three -/
theorem GenAt.go {m : Int} {su : List Str} (g : GenAt H pen L world scope left stock W sc n st) (r' : RoomAt H' pen L left stock m su) (c : Chg3 pen left stock H H') : GenAt H' pen L world scope left stock W sc m su :=
  ⟨r', g.w.mono (g.r.tk c r') (fun o e => c _ _ g.fw e), c _ _ g.fs g.gsc, g.fw, g.fs⟩
theorem GenAt.draw (g : GenAt H pen L world scope left stock W sc n st) (h : PenAt H' pen L) (c : Chg pen H H') : GenAt H' pen L world scope left stock W sc n st :=
  g.go (g.r.draw h c) (.ofp c)
end
/-- the names that stand and may come: all unlike, few -/
structure NamesOk (sc st : List Str) : Prop where
  nsc : ∀ x ∈ sc, isName x
  nst : ∀ x ∈ st, isName x
  nd : st.Nodup
  few : sc.length + st.length ≤ 60
/-- what comes of a drawn part -/
structure PartOut (fs sc : List Str) (d : Nat) (n : Int) (st : List Str) (p : Part) (n' : Int) (st' : List Str) : Prop where
  ok : p.ok fs sc
  deep : p.deep ≤ d
  size : (p.size : Int) + n' ≤ 1 + n
  left : 0 ≤ n'
  names : ∃ u, st = st' ++ u ∧ p.rowNames.Nodup ∧ ∀ x ∈ p.rowNames, x ∈ u
/-! ### a leaf -/
theorem canLay_name {x : Str} (h : isName x) : PyData.canLay0 (.str x) = true := by
  rw [PyData.canLay0]
  unfold PyData.strOk
  rw [Array.all_eq_true]
  intro i hi
  have hm : x.cps[i] ∈ x.cps.toList := by simp
  have := h.2.2 _ hm
  exact decide_eq_true (by omega)
theorem shaped_list {ds : List PyData} {k : Nat} (h1 : ∀ d ∈ ds, PyData.canLay0 d = true) (h2 : ∀ d ∈ ds, PyData.depth d ≤ k) (hk : k ≤ 63) : SeqAt.shaped (.list ds) = true := by
  have a1 : ∀ ds : List PyData, (∀ d ∈ ds, PyData.canLay0 d = true) → PyData.canLayAll0 ds = true := by
    intro ds h
    induction ds with
    | nil => rfl
    | cons d ds ih => rw [PyData.canLayAll0, h d (by simp), ih fun e he => h e (by simp [he])]; rfl
  have a2 : ∀ ds : List PyData, (∀ d ∈ ds, PyData.depth d ≤ k) → PyData.depthAll ds ≤ k := by
    intro ds h
    induction ds with
    | nil => rw [PyData.depthAll]; omega
    | cons d ds ih =>
      have i1 := ih fun e he => h e (by simp [he])
      have i2 := h d (by simp)
      rw [PyData.depthAll]
      omega
  have a3 := a2 ds h2
  unfold SeqAt.shaped
  rw [show PyData.canLay0 (.list ds) = true from by rw [PyData.canLay0]; exact a1 ds h1, Bool.true_and, decide_eq_true_eq, PyData.depth]
  omega
theorem shaped_names {ss : List Str} (h : ∀ x ∈ ss, isName x) : SeqAt.shaped (.list (ss.map PyData.str)) = true :=
  shaped_list (k := 0) (fun d hd => by obtain ⟨x, hx, rfl⟩ := List.mem_map.mp hd; exact canLay_name (h x hx)) (fun d hd => by obtain ⟨x, hx, rfl⟩ := List.mem_map.mp hd; rw [PyData.depth]; omega) (by decide)
theorem shaped_world {W : List (Str × Nat)} (h : WorldOk W) : SeqAt.shaped (.list (W.map fun q => PyData.tuple [.str q.1, .int q.2])) = true :=
  shaped_list (k := 1) (fun d hd => by
      obtain ⟨x, hx, rfl⟩ := List.mem_map.mp hd
      simp only [PyData.canLay0, PyData.canLayAll0]
      have := canLay_name (h.2 x hx).1
      rw [PyData.canLay0] at this
      rw [this]; rfl)
    (fun d hd => by obtain ⟨x, hx, rfl⟩ := List.mem_map.mp hd; simp [PyData.depth, PyData.depthAll]) (by decide)
theorem shaped_nil : SeqAt.shaped (.list []) = true := shaped_names (ss := []) (by simp)
theorem eqv_nil {ds : List PyData} : PyData.eqv (.list ds) (.list []) = ds.isEmpty := by
  cases ds <;> rfl
def spLeaf : Sp := fun vs H Q _ => ∃ (pen L world scope left stock : Addr) (W : List (Str × Nat)) (sc : List Str) (n : Int) (st : List Str) (want : Str), vs = [.ref pen, .ref world, .ref scope, .str want] ∧
  GenAt H pen L world scope left stock W sc n st ∧ WorldOk W ∧ NamesOk sc st ∧ 0 ≤ n ∧
  ∀ (v : V) (p : Part) (H' : Hp), Tp H' v p.data → GenAt H' pen L world scope left stock W sc n st → PartOut (W.map (·.1)) sc 1 n st p n st → Chg3 pen left stock H H' → Q v H'
theorem tp_num {H : Hp} {a : Addr} {n : Int} (h : H a = some (.tup [.str "number", .int n])) : Tp H (.ref a) (Part.num n).data := .tup h (.cons (.str _) (.one (.int n)))
theorem tp_name {H : Hp} {a : Addr} {x : Str} (h : H a = some (.tup [.str "name", .str x])) : Tp H (.ref a) (Part.name x).data := .tup h (.cons (.str _) (.one (.str x)))
theorem tp_fn {H : Hp} {a : Addr} {x : Str} (h : H a = some (.tup [.str "fun", .str x])) : Tp H (.ref a) (Part.fn x).data := .tup h (.cons (.str _) (.one (.str x)))

/-! ### names that are used up -/
def Used (st st' A : List Str) : Prop := ∃ u, st = st' ++ u ∧ A.Nodup ∧ ∀ x ∈ A, x ∈ u
section
variable {st st1 st2 A B : List Str}
theorem Used.refl : Used st st [] := ⟨[], by simp, List.nodup_nil, by simp⟩
theorem Used.app (h : Used st st1 A) (h2 : Used st1 st2 B) (nd : st.Nodup) : Used st st2 (A ++ B) := by
  obtain ⟨u, rfl, n1, s1⟩ := h
  obtain ⟨v, rfl, n2, s2⟩ := h2
  refine ⟨v ++ u, by simp, List.nodup_append.mpr ⟨n1, n2, fun a ha b hb e => ?_⟩, fun x hx => ?_⟩
  · subst e
    have h1 := s1 _ ha
    have h2 := s2 _ hb
    exact (List.nodup_append.mp nd).2.2 a (by simp [h2]) a h1 rfl
  · rcases List.mem_append.mp hx with h | h
    · exact List.mem_append.mpr (.inr (s1 x h))
    · exact List.mem_append.mpr (.inl (s2 x h))
theorem Used.swap (h : Used st st1 A) (h2 : Used st1 st2 B) (nd : st.Nodup) : Used st st2 (B ++ A) := by
  obtain ⟨u, e, n, s⟩ := h.app h2 nd
  refine ⟨u, e, ?_, fun x hx => s x (by rw [List.mem_append] at hx ⊢; exact hx.symm)⟩
  rw [List.nodup_append] at n ⊢
  exact ⟨n.2.1, n.1, fun a ha b hb e => n.2.2 b hb a ha e.symm⟩
theorem Used.left (h : Used st st1 A) : Used st st1 [] := by
  obtain ⟨u, e, _, _⟩ := h
  exact ⟨u, e, List.nodup_nil, by simp⟩
/-- the later ones are not used -/
theorem Used.fst (h : Used st st1 A) (h2 : Used st1 st2 B) : Used st st2 A := by
  obtain ⟨u, rfl, n1, s1⟩ := h
  obtain ⟨v, rfl, n2, s2⟩ := h2
  exact ⟨v ++ u, by simp, n1, fun x hx => List.mem_append.mpr (.inr (s1 x hx))⟩
theorem Used.snd (h : Used st st1 A) (h2 : Used st1 st2 B) : Used st st2 B := by
  obtain ⟨u, rfl, n1, s1⟩ := h
  obtain ⟨v, rfl, n2, s2⟩ := h2
  exact ⟨v ++ u, by simp, n2, fun x hx => List.mem_append.mpr (.inl (s2 x hx))⟩
theorem Used.len (h : Used st st1 A) : st1.length ≤ st.length := by
  obtain ⟨u, rfl, _, _⟩ := h
  rw [List.length_append]
  omega
theorem NamesOk.go {sc : List Str} (n : NamesOk sc st) (h : Used st st1 A) : NamesOk sc st1 := by
  obtain ⟨u, rfl, _, _⟩ := h
  exact ⟨n.nsc, fun x hx => n.nst x (List.mem_append.mpr (.inl hx)), (List.nodup_append.mp n.nd).1, by have := n.few; rw [List.length_append] at this; omega⟩
end
/-! ### room -/
def RoomL (H : Hp) (room left stock : Addr) (D : Int) : Prop := H room = some (.lst [.int D, .ref left, .ref stock])
def spFits : Sp := fun vs H Q _ => ∃ (pen L room left stock : Addr) (D n many : Int) (st : List Str), vs = [.ref room, .int many] ∧ RoomAt H pen L left stock n st ∧ RoomL H room left stock D ∧
  (n < many → Q (.bl false) H) ∧ (many ≤ n → ∀ H', RoomAt H' pen L left stock (n - many) st → Chg left H H' → Q (.bl true) H')
/-! ### parts, calls, lets: what they lean on, what they tell -/
structure PartPre (H : Hp) (pen L world scope room left stock : Addr) (W : List (Str × Nat)) (sc : List Str) (D n : Int) (st : List Str) (want : Str) : Prop where
  g : GenAt H pen L world scope left stock W sc n st
  w : WorldOk W
  nm : NamesOk sc st
  n0 : 0 ≤ n
  rm : RoomL H room left stock D
  fr : Fix pen left stock room
  d0 : 0 ≤ D
  wt : want ∈ [("number" : Str), "pair", "any"]
def PartPost (H : Hp) (pen L world scope left stock : Addr) (W : List (Str × Nat)) (sc : List Str) (d : Nat) (n : Int) (st : List Str) (Q : VK) : Prop :=
  ∀ (v : V) (p : Part) (n' : Int) (st' : List Str) (H' : Hp), Tp H' v p.data → GenAt H' pen L world scope left stock W sc n' st' → PartOut (W.map (·.1)) sc d n st p n' st' → Chg3 pen left stock H H' → Q v H'
def spPart (m : Nat) : Sp := fun vs H Q _ => ∃ (pen L world scope room left stock : Addr) (W : List (Str × Nat)) (sc : List Str) (D n : Int) (st : List Str) (want : Str), vs = [.ref pen, .ref world, .ref scope, .ref room, .str want] ∧
  PartPre H pen L world scope room left stock W sc D n st want ∧ D.toNat < m ∧ PartPost H pen L world scope left stock W sc (D.toNat + 1) n st Q
/-- a let's, its room one less deep -/
def spLet (m : Nat) : Sp := fun vs H Q _ => ∃ (pen L world scope room left stock : Addr) (W : List (Str × Nat)) (sc : List Str) (D n : Int) (st : List Str) (want : Str), vs = [.ref pen, .ref world, .ref scope, .ref room, .str want] ∧
  PartPre H pen L world scope room left stock W sc D n st want ∧ D.toNat < m ∧ PartPost H pen L world scope left stock W sc (D.toNat + 2) n st Q
def spCallP (m : Nat) : Sp := fun vs H Q _ => ∃ (pen L world scope room left stock : Addr) (W : List (Str × Nat)) (sc : List Str) (D n : Int) (st : List Str) (want : Str), vs = [.ref pen, .ref world, .ref scope, .ref room, .str want] ∧
  PartPre H pen L world scope room left stock W sc D n st want ∧ D.toNat < m ∧ 5 ≤ D ∧ W ≠ [] ∧ PartPost H pen L world scope left stock W sc (D.toNat + 2) n st Q
theorem PartOut.leaf {fs sc : List Str} {d : Nat} {n n1 : Int} {st st' : List Str} {p : Part} (h : PartOut fs sc 1 n st p n1 st') (hd : 1 ≤ d) : PartOut fs sc d n st p n1 st' := ⟨h.ok, Nat.le_trans h.deep hd, h.size, h.left, h.names⟩
section
variable {H H' : Hp} {pen L world scope room left stock : Addr} {W : List (Str × Nat)} {sc : List Str} {D n : Int} {st : List Str} {want : Str}
theorem PartPre.leafArgs (h : PartPre H pen L world scope room left stock W sc D n st want) {d : Nat} {Q : VK} {E : XK} (hd : 1 ≤ d) (q : PartPost H pen L world scope left stock W sc d n st Q) :
    spLeaf ([.ref pen, .ref world, .ref scope, .str want] ++ []) H Q E := ⟨pen, L, world, scope, left, stock, W, sc, n, st, want, rfl, h.g, h.w, h.nm, h.n0, fun v p H' t g o c => q v p n st H' t g (o.leaf hd) c⟩
theorem PartPre.go {n' : Int} {st' A : List Str} (h : PartPre H pen L world scope room left stock W sc D n st want) (g : GenAt H' pen L world scope left stock W sc n' st') (c : Chg3 pen left stock H H') (u : Used st st' A) (h0 : 0 ≤ n') :
    PartPre H' pen L world scope room left stock W sc D n' st' want := ⟨g, h.w, h.nm.go u, h0, c _ _ h.fr h.rm, h.fr, h.d0, h.wt⟩
end

section
variable {H H' : Hp} {pen L world scope left stock d : Addr} {W : List (Str × Nat)} {sc : List Str} {n : Int} {st : List Str}
/-- another list changes -/
theorem GenAt.oth {ys : List V} (g : GenAt H pen L world scope left stock W sc n st) (c : Chg d H H') (f : Fix pen left stock d) (fL : L ≠ d) (fw : world ≠ d) (fs : scope ≠ d) (hl : H d = some (.lst ys)) : GenAt H' pen L world scope left stock W sc n st :=
  ⟨g.r.chg c f fL, g.w.mono (c.tkl hl) (fun o e => c _ _ fw e), c _ _ fs g.gsc, g.fw, g.fs⟩
/-- another scope -/
theorem GenAt.scp {scope2 : Addr} {sc2 : List Str} (g : GenAt H pen L world scope left stock W sc n st) (h : H scope2 = some (.lst (sc2.map V.str))) (f : Fix pen left stock scope2) : GenAt H pen L world scope2 left stock W sc2 n st :=
  ⟨g.r, g.w, h, g.fw, f⟩
theorem GenAt.free (g : GenAt H pen L world scope left stock W sc n st) (h : H d = none) : Fix pen left stock d ∧ L ≠ d ∧ world ≠ d ∧ scope ≠ d := by
  obtain ⟨xs, hw, _⟩ := g.w
  obtain ⟨ns, a, r, hp, hL, _⟩ := g.r.pe
  exact ⟨g.r.new h, ne_of_none hL h, ne_of_none hw h, ne_of_none g.gsc h⟩
end

/-! ### a part by its word -/
def kinds7 : List Str := ["op", "when", "side", "let", "call", "leaf", "pair"]
def words0 : List (Key × V) := mergeK [] [(.inr "number", .str "op op op op op op when when side let call call call call leaf leaf")]
def words1 : List (Key × V) := putK words0 (.inr "pair") (.str "pair pair pair pair when when side side let let call call call op leaf pair")
def words2 : List (Key × V) := putK words1 (.inr "any") (.str "op op pair pair pair when when side side let let call call call leaf leaf")
def wordsOf (x : Str) : Str := match valV words2 (Sum.inr x) with
  | some (.str s) => s
  | _ => ""
theorem words_at : ∀ x ∈ [("number" : Str), "pair", "any"], valV words2 (Sum.inr x) = some (.str (wordsOf x)) ∧ (Txt.split (wordsOf x) " ").length = 16 ∧ (wordsOf x).length + 2 ≤ 100 ∧ ∀ y ∈ Txt.split (wordsOf x) " ", y ∈ kinds7 := by decide +kernel
def kv4 : List (Key × V) := [(.inr "side", .int 1), (.inr "pair", .int 2), (.inr "when", .int 3), (.inr "op", .int 2)]

/-! ### a loop -/
theorem Part.size_pos : ∀ p : Part, 1 ≤ p.size
  | .num _ => Nat.le_refl _
  | .name _ => Nat.le_refl _
  | .fn _ => Nat.le_refl _
  | .one _ _ => Nat.le_add_right _ _
  | .two _ _ _ => Nat.le_add_right _ _
  | .whn _ _ _ => Nat.le_add_right _ _
  | .letp _ _ => Nat.le_add_right _ _
  | .shut _ => Nat.le_refl _
theorem cut_from {ss : List Str} (k : Nat) (h : k ≤ ss.length) : cutV (ss.map V.str) (some (k : Int)) none = (ss.drop k).map V.str := by
  unfold cutV
  rw [HT.sIx_none, HT.sIx_nat, List.length_map, Nat.min_eq_left h, ← List.map_drop, List.take_of_length_le (by rw [List.length_map, List.length_drop]; exact Nat.le_refl _)]
theorem cut_to {ss : List Str} (k : Nat) : cutV (ss.map V.str) none (some (k : Int)) = (ss.take k).map V.str := by
  unfold cutV
  rw [HT.sIx_none, HT.sIx_nat, List.length_map, Nat.sub_zero, List.drop_zero, ← List.map_take]
  by_cases h : k ≤ ss.length
  · rw [Nat.min_eq_left h]
  · rw [Nat.min_eq_right (by omega), List.take_of_length_le (Nat.le_refl _), List.take_of_length_le (by omega)]
structure LoopPre (H : Hp) (pen L world scope room left stock : Addr) (W : List (Str × Nat)) (me : Str) (sc : List Str) (n : Int) (st : List Str) : Prop where
  g : GenAt H pen L world scope left stock W sc n st
  w : WorldOk W
  nm : NamesOk sc st
  n0 : 0 ≤ n
  rm : ∃ D : Int, H room = some (.lst [.int D, .ref left, .ref stock])
  fr : Fix pen left stock room
  me : me ∈ W.map (·.1)
  sc0 : sc ≠ []
  sc4 : sc.length ≤ 4
def spLoop : Sp := fun vs H Q _ => ∃ (pen L world scope room left stock : Addr) (W : List (Str × Nat)) (me : Str) (sc : List Str) (n : Int) (st : List Str), vs = [.ref pen, .ref world, .str me, .ref scope, .ref room] ∧
  LoopPre H pen L world scope room left stock W me sc n st ∧
  ∀ (v : V) (p : Part) (n' : Int) (st' : List Str) (H' : Hp), Tp H' v p.data → GenAt H' pen L world scope left stock W sc n' st' → p.ok (W.map (·.1)) sc → p.deep ≤ 8 → (p.size : Int) + n' ≤ 16 + n → 0 ≤ n' → Used st st' p.rowNames → Chg3 pen left stock H H' → Q v H'

/-! ### a body -/
structure BodyAt (H : Hp) (pen L world scope stock : Addr) (W : List (Str × Nat)) (sc st : List Str) : Prop where
  pe : PenAt H pen L
  w : WorldAt H world W
  gsc : H scope = some (.lst (sc.map V.str))
  sk : H stock = some (.lst (st.map V.str))
  wp : world ≠ pen
  ws : world ≠ stock
  cp : scope ≠ pen
  cs : scope ≠ stock
  sp : stock ≠ pen
  sL : stock ≠ L
structure BodyOk (W : List (Str × Nat)) (me : Str) (sc st : List Str) : Prop where
  w : WorldOk W
  nm : NamesOk sc st
  me : me = "" ∨ me ∈ W.map (·.1)
  sc4 : sc.length ≤ 4
/-- all but the pen and the stock stay -/
def Chg2 (pen stock : Addr) (H H' : Hp) : Prop := ∀ b o, b ≠ pen → b ≠ stock → H b = some o → H' b = some o
section
variable {H H' H1 H2 : Hp} {pen L world scope stock l rm : Addr} {W : List (Str × Nat)} {me : Str} {sc st : List Str} {n D : Int}
theorem BodyAt.same (h : BodyAt H pen L world scope stock W sc st) (s : Same H H') : BodyAt H' pen L world scope stock W sc st :=
  ⟨h.pe.same s, h.w.mono (Same.tk s) (fun o e => s _ _ e), s _ _ h.gsc, s _ _ h.sk, h.wp, h.ws, h.cp, h.cs, h.sp, h.sL⟩
theorem PenAt.tk (h : PenAt H pen L) (c : Chg pen H H') : Tk H H' := by
  obtain ⟨ns, a, r, hp, _⟩ := h
  exact c.tkl hp
theorem BodyAt.draw (h : BodyAt H pen L world scope stock W sc st) (p : PenAt H' pen L) (c : Chg pen H H') : BodyAt H' pen L world scope stock W sc st :=
  ⟨p, h.w.mono (h.pe.tk c) (fun o e => c _ _ h.wp e), c _ _ h.cp h.gsc, c _ _ h.sp h.sk, h.wp, h.ws, h.cp, h.cs, h.sp, h.sL⟩
/-- with a list of what is left, a room -/
theorem BodyAt.gen (h : BodyAt H pen L world scope stock W sc st) (hl : H l = none) (el : H1 l = some (.lst [.int n])) (s1 : Same H H1) (s2 : Same H1 H2) : GenAt H2 pen L world scope l stock W sc n st := by
  have h1 := (h.same s1).same s2
  obtain ⟨ns, a, r, hp, hL, _⟩ := h.pe
  obtain ⟨xs, hw, _⟩ := h.w
  exact ⟨⟨h1.pe, s2 _ _ el, h1.sk, (ne_of_none hp hl).symm, (ne_of_none hL hl).symm, h.sp, h.sL, (ne_of_none h.sk hl).symm⟩, h1.w, h1.gsc, ⟨h.wp, ne_of_none hw hl, h.ws⟩, ⟨h.cp, ne_of_none h.gsc hl, h.cs⟩⟩
end
def spBody : Sp := fun vs H Q _ => ∃ (pen L world scope stock : Addr) (W : List (Str × Nat)) (me : Str) (sc st : List Str), vs = [.ref pen, .ref world, .str me, .ref scope, .ref stock] ∧ BodyAt H pen L world scope stock W sc st ∧ BodyOk W me sc st ∧
  ∀ (v : V) (p : Part) (H' : Hp), Tp H' v p.data → PenAt H' pen L → p.ok (W.map (·.1)) sc → p.deep ≤ 12 → p.size ≤ 60 → p.rowNames.Nodup → (∀ x ∈ p.rowNames, x ∈ st) → Chg2 pen stock H H' → Q v H'

/-! ### a program -/
section
variable {K : PySem.W.Frag} {σ : L2.St} {H : Hp} {Q : L2.St → Hp → Prop} {a : Addr} {x y z : V} {i j k : Nat}
theorem g_un2 (h : H a = some (.tup [x, y])) (q : Q ((σ.set i (some x)).set j (some y)) H) : gTup K 2 (gCons (gName i) (gCons (gName j) gNil)) (.ref a) σ H Q :=
  ⟨a, _, rfl, .of h, rfl, x, _, rfl, y, _, rfl, rfl, q⟩
theorem g_un3 (h : H a = some (.tup [x, y, z])) (q : Q (((σ.set i (some x)).set j (some y)).set k (some z)) H) : gTup K 3 (gCons (gName i) (gCons (gName j) (gCons (gName k) gNil))) (.ref a) σ H Q :=
  ⟨a, _, rfl, .of h, rfl, x, _, rfl, y, _, rfl, z, _, rfl, rfl, q⟩
theorem Tp.tup_inv {v : V} {ds : List PyData} (h : Tp H v (.tuple ds)) : ∃ a xs, v = .ref a ∧ H a = some (.tup xs) ∧ Tps H xs ds := by
  cases h with
  | tup e r => exact ⟨_, _, rfl, e, r⟩
theorem Tps.cons_inv {vs : List V} {d : PyData} {ds : List PyData} (h : Tps H vs (d :: ds)) : ∃ v us, vs = v :: us ∧ Tp H v d ∧ Tps H us ds := by
  cases h with
  | cons a b => exact ⟨_, _, rfl, a, b⟩
theorem Tps.nil_inv {vs : List V} (h : Tps H vs []) : vs = [] := by
  cases h
  rfl
theorem Tp.str_inv {v : V} {s : Str} (h : Tp H v (.str s)) : v = .str s := by
  cases h
  rfl
theorem Tp.int_inv {v : V} {n : Int} (h : Tp H v (.int n)) : v = .int n := by
  cases h
  rfl
/-- a tuple of two -/
theorem Tp.two {v : V} {d e : PyData} (h : Tp H v (.tuple [d, e])) : ∃ a x y, v = .ref a ∧ H a = some (.tup [x, y]) ∧ Tp H x d ∧ Tp H y e := by
  obtain ⟨a, xs, rfl, h1, h2⟩ := h.tup_inv
  obtain ⟨x, us, rfl, tx, h3⟩ := h2.cons_inv
  obtain ⟨y, us, rfl, ty, h4⟩ := h3.cons_inv
  rw [h4.nil_inv] at h1
  exact ⟨a, x, y, rfl, h1, tx, ty⟩
theorem Tp.three {v : V} {d e f : PyData} (h : Tp H v (.tuple [d, e, f])) : ∃ a x y z, v = .ref a ∧ H a = some (.tup [x, y, z]) ∧ Tp H x d ∧ Tp H y e ∧ Tp H z f := by
  obtain ⟨a, xs, rfl, h1, h2⟩ := h.tup_inv
  obtain ⟨x, us, rfl, tx, h3⟩ := h2.cons_inv
  obtain ⟨y, us, rfl, ty, h4⟩ := h3.cons_inv
  obtain ⟨z, us, rfl, tz, h5⟩ := h4.cons_inv
  rw [h5.nil_inv] at h1
  exact ⟨a, x, y, z, rfl, h1, tx, ty, tz⟩
end
structure Fn1 where
  name : Str
  things : List Str
  body : Part
def Fn1.data (f : Fn1) : PyData := .tuple [.str f.name, .tuple (f.things.map .str), f.body.data]
structure Prog where
  fs : List Fn1
  asked : Part
def Prog.data (P : Prog) : PyData := .tuple [.tuple (P.fs.map Fn1.data), P.asked.data]
def Prog.names (P : Prog) : List Str := P.fs.map (·.name)
structure Part.fine (fs sc : List Str) (p : Part) : Prop where
  ok : p.ok fs sc
  deep : p.deep ≤ 12
  size : p.size ≤ 60
  nd : p.rowNames.Nodup
  un : ∀ x ∈ p.rowNames, isName x ∧ x ∉ sc
structure Fn1.fine (fs : List Str) (f : Fn1) : Prop where
  nm : isName f.name
  few : f.things.length ≤ 4
  nd : f.things.Nodup
  th : ∀ x ∈ f.things, isName x
  body : f.body.fine fs f.things
structure Prog.fine (P : Prog) : Prop where
  few : P.fs.length ≤ 8
  nd : P.names.Nodup
  fs : ∀ f ∈ P.fs, f.fine P.names
  asked : P.asked.fine P.names []
def spProgram : Sp := fun vs H Q _ => ∃ (pen L : Addr), vs = [.ref pen] ∧ PenAt H pen L ∧
  ∀ (v : V) (P : Prog) (H' : Hp), Tp H' v P.data → P.fine → PenAt H' pen L → Chg pen H H' → Q v H'
theorem spNames_mk {pen L : Addr} {many : Int} {H : Hp} {Q : VK} {E : XK} (h : PenAt H pen L) (h0 : 0 ≤ many) (h1 : many ≤ 26)
    (q : ∀ (d : Addr) (ss : List Str) (H' : Hp), (ss.length : Int) = many → (∀ s ∈ ss, isName s) → ss.Nodup → H d = none → H' d = some (.lst (ss.map V.str)) → PenAt H' pen L → Chg pen H H' → Q (.ref d) H') : spNames ([.ref pen, .int many] ++ []) H Q E :=
  ⟨pen, L, many, rfl, h, h0, h1, q⟩
theorem fine_of {W : List (Str × Nat)} {p : Part} {ss sc st : List Str} (hn : ∀ s ∈ ss, isName s) (nd : ss.Nodup) (e : ss = sc ++ st) (h1 : p.ok (W.map (·.1)) sc) (h2 : p.deep ≤ 12) (h3 : p.size ≤ 60) (h4 : p.rowNames.Nodup) (h5 : ∀ x ∈ p.rowNames, x ∈ st) : p.fine (W.map (·.1)) sc :=
  ⟨h1, h2, h3, h4, fun x hx => ⟨hn x (by rw [e]; exact List.mem_append.mpr (.inr (h5 x hx))), fun hs => by rw [e] at nd; exact (List.nodup_append.mp nd).2.2 x hs x (h5 x hx) rfl⟩⟩

/-! ### parts within parts -/
section
variable {K : PySem.W.Frag} {w : World} {σ : L2.St} {H : Hp} {Q : VK} {D : Ends} {c : TT} {tb : TS} {d : Addr} {z : Str} {kvs : List (Str × V)}
theorem while_any (Pv : Nat → L2.St → Hp → Prop) (m : Nat) (h0 : Pv m σ H)
    (hs : ∀ m σ H, Pv m σ H → c σ H fun b H1 => if b = true then ∃ N : L2.St → Hp → Prop, (∀ σ' H', N σ' H' → ∃ m', m' < m ∧ Pv m' σ' H') ∧ tb { D with nx := N, ct := N, bk := D.nx } σ H1 else D.nx σ H1) : tWhile c tb D σ H :=
  ⟨Pv, ⟨m, h0⟩, hs⟩
/-- a turn of a while -/
theorem g_turn {Pv : Nat → L2.St → Hp → Prop} {m : Nat} (h : tb { D with nx := fun σ' H' => ∃ m', m' < m ∧ Pv m' σ' H', ct := fun σ' H' => ∃ m', m' < m ∧ Pv m' σ' H', bk := D.nx } σ H) :
    ∃ N : L2.St → Hp → Prop, (∀ σ' H', N σ' H' → ∃ m', m' < m ∧ Pv m' σ' H') ∧ tb { D with nx := N, ct := N, bk := D.nx } σ H := ⟨_, fun _ _ h => h, h⟩
theorem g_inK (T : KTab K w d kvs) {r : Bool} (e : (kvs.find? fun q => decide (q.1 = z)).isSome = r) (q : Q (.bl r) H) : rInG K w false (.str z) (.ref d) H Q :=
  .inr (.inr (.inr ⟨z, d, _, rfl, rfl, T z, by subst e; simpa using q⟩))
theorem Tps.snoc_inv : ∀ {ds : List PyData} {e : PyData} {us : List V}, Tps H us (ds ++ [e]) → ∃ vs v, us = vs ++ [v] ∧ Tps H vs ds ∧ Tp H v e
  | [], e, us, h => by
    obtain ⟨v, r, rfl, tv, tr⟩ := h.cons_inv
    rw [tr.nil_inv]
    exact ⟨[], v, rfl, .nil, tv⟩
  | d :: ds, e, us, h => by
    obtain ⟨v, r, rfl, tv, tr⟩ := Tps.cons_inv (ds := ds ++ [e]) h
    obtain ⟨vs, x, rfl, t1, t2⟩ := Tps.snoc_inv tr
    exact ⟨v :: vs, x, rfl, .cons tv t1, t2⟩
/-- the list at l is unlike nothing, or like -/
theorem g_neLL {a b : Addr} {xs ys : List V} {ds es : List PyData} (ha : H a = some (.lst xs)) (hb : H b = some (.lst ys)) (ta : Tps H xs ds) (tb : Tps H ys es) (sa : SeqAt.shaped (.list ds) = true) (sb : SeqAt.shaped (.list es) = true)
    (q : Q (.bl (!PyData.eqv (.list ds) (.list es))) H) : rNeG K (.ref a) (.ref b) H Q := g_neD (.lst (.of ha) (Tps.dp ta)) (.lst (.of hb) (Tps.dp tb)) sa sb q
end
mutual
/-- all parts of a part, each ahead of what it holds -/
def Part.all : Part → List Part
  | .num n => [.num n]
  | .name x => [.name x]
  | .fn f => [.fn f]
  | .one k a => .one k a :: a.all
  | .two k a b => .two k a b :: (a.all ++ b.all)
  | .whn a b c => .whn a b c :: (a.all ++ (b.all ++ c.all))
  | .letp r a => .letp r a :: (r.all ++ a.all)
  | .shut a => [.shut a]
def Rows.all : Rows → List Part
  | .nil => []
  | .cons _ a r => a.all ++ r.all
end
theorem Rows.all_flat : ∀ r : Rows, r.all = r.parts.flatMap Part.all
  | .nil => rfl
  | .cons x a r => by
    show a.all ++ r.all = (a :: r.parts).flatMap Part.all
    rw [List.flatMap_cons, ← Rows.all_flat r]
theorem Part.all_kids (p : Part) : p.all = p :: p.kids.flatMap Part.all := by
  cases p with
  | letp r a =>
    show _ :: (r.all ++ a.all) = _ :: (r.parts ++ [a]).flatMap Part.all
    rw [Rows.all_flat, List.flatMap_append]
    simp
  | _ => simp [Part.all, Part.kids]
/-- sums, greatest depths -/
def sz : List Part → Nat
  | [] => 0
  | p :: r => p.size + sz r
def mxd : List Part → Nat
  | [] => 0
  | p :: r => max p.deep (mxd r)
theorem sz_app : ∀ a b : List Part, sz (a ++ b) = sz a + sz b
  | [], b => by show sz b = 0 + sz b; omega
  | p :: a, b => by
    show p.size + sz (a ++ b) = p.size + sz a + sz b
    rw [sz_app a b]
    omega
theorem mxd_app : ∀ a b : List Part, mxd (a ++ b) = max (mxd a) (mxd b)
  | [], b => by show mxd b = max 0 (mxd b); omega
  | p :: a, b => by
    show max p.deep (mxd (a ++ b)) = max (max p.deep (mxd a)) (mxd b)
    rw [mxd_app a b]
    omega
theorem sz_len : ∀ a : List Part, a.length ≤ sz a
  | [] => Nat.le_refl _
  | p :: a => by
    have := sz_len a
    have := p.size_pos
    show a.length + 1 ≤ p.size + sz a
    omega
theorem Rows.sz : ∀ r : Rows, r.size = Lz.sz r.parts
  | .nil => rfl
  | .cons x a r => by
    show a.size + r.size = a.size + Lz.sz r.parts
    rw [Rows.sz r]
theorem Rows.mxd : ∀ r : Rows, r.deep = Lz.mxd r.parts
  | .nil => rfl
  | .cons x a r => by
    show max a.deep r.deep = max a.deep (Lz.mxd r.parts)
    rw [Rows.mxd r]
theorem Part.sz_kids (p : Part) : p.size = 1 + sz p.kids := by
  cases p with
  | letp r a =>
    show 1 + (r.size + a.size) = 1 + sz (r.parts ++ [a])
    rw [sz_app, Rows.sz]
    rfl
  | _ => rfl
theorem Part.mxd_kids (p : Part) : p.deep = 1 + mxd p.kids := by
  cases p with
  | letp r a =>
    show 1 + max r.deep a.deep = 1 + mxd (r.parts ++ [a])
    rw [mxd_app, Rows.mxd]
    show _ = 1 + max _ (max a.deep 0)
    omega
  | one k a => show 1 + a.deep = 1 + max a.deep 0; omega
  | two k a b => show 1 + max a.deep b.deep = 1 + max a.deep (max b.deep 0); omega
  | whn a b c => show 1 + max a.deep (max b.deep c.deep) = 1 + max a.deep (max b.deep (max c.deep 0)); omega
  | _ => rfl
theorem mxd_mem {q : Part} : ∀ {a : List Part}, q ∈ a → q.deep ≤ mxd a
  | p :: a, h => by
    show q.deep ≤ max p.deep (mxd a)
    rcases List.mem_cons.mp h with rfl | h
    · omega
    · have := mxd_mem h
      omega
theorem mxd_le {n : Nat} : ∀ {a : List Part}, (∀ q ∈ a, q.deep ≤ n) → mxd a ≤ n
  | [], _ => Nat.zero_le _
  | p :: a, h => by
    have h1 := h p (by simp)
    have h2 := mxd_le fun q hq => h q (List.mem_cons_of_mem _ hq)
    show max p.deep (mxd a) ≤ n
    omega
theorem all_len : ∀ (n : Nat) (p : Part), p.size ≤ n → p.all.length = p.size := by
  intro n
  induction n with
  | zero => intro p h; have := p.size_pos; omega
  | succ n ih =>
    intro p h
    have h1 := p.sz_kids
    rw [p.all_kids, List.length_cons, h1]
    have : ∀ l : List Part, sz l ≤ n → (l.flatMap Part.all).length = sz l := by
      intro l
      induction l with
      | nil => intro _; rfl
      | cons q l il =>
        intro hl
        have hl' : q.size + sz l ≤ n := hl
        rw [List.flatMap_cons, List.length_append, ih q (by omega), il (by omega)]
        rfl
    rw [this _ (by omega)]
    omega
theorem Part.all_len (p : Part) : p.all.length = p.size := Lz.all_len p.size p (Nat.le_refl _)
/-! what stands in a program -/
def Part.good (p : Part) : Prop := (∃ fs sc, p.ok fs sc) ∧ p.deep ≤ 12
theorem Rows.ok_parts {fs sc : List Str} : ∀ {r : Rows}, r.ok fs sc → ∀ q ∈ r.parts, q.ok fs sc
  | .cons x a r, h, q, hq => by
    rcases List.mem_cons.mp hq with rfl | hq
    · exact h.1
    · exact Rows.ok_parts h.2 q hq
theorem Part.ok_kids {fs sc : List Str} {p : Part} (h : p.ok fs sc) : ∃ sc', ∀ q ∈ p.kids, q.ok fs sc' := by
  cases p with
  | num n => exact ⟨sc, by simp [Part.kids]⟩
  | name x => exact ⟨sc, by simp [Part.kids]⟩
  | fn f => exact ⟨sc, by simp [Part.kids]⟩
  | one k a => exact ⟨sc, fun q hq => by rw [List.mem_singleton.mp hq]; exact h⟩
  | two k a b =>
    refine ⟨sc, fun q hq => ?_⟩
    simp only [Part.kids, List.mem_cons, List.not_mem_nil, or_false] at hq
    rcases hq with rfl | rfl
    · exact h.1
    · exact h.2
  | whn a b c =>
    refine ⟨sc, fun q hq => ?_⟩
    simp only [Part.kids, List.mem_cons, List.not_mem_nil, or_false] at hq
    rcases hq with rfl | rfl | rfl
    · exact h.1
    · exact h.2.1
    · exact h.2.2
  | letp r a =>
    obtain ⟨_, _, _, h1, h2⟩ := h
    refine ⟨sc ++ r.names, fun q hq => ?_⟩
    rcases List.mem_append.mp hq with hq | hq
    · exact Rows.ok_parts h1 q hq
    · rw [List.mem_singleton.mp hq]
      exact h2
  | shut a => exact h.elim
theorem Part.good.kids {p : Part} (h : p.good) : ∀ q ∈ p.kids, q.good := by
  obtain ⟨⟨fs, sc, h1⟩, h2⟩ := h
  obtain ⟨sc', h3⟩ := Part.ok_kids h1
  have h4 := p.mxd_kids
  exact fun q hq => ⟨⟨fs, sc', h3 q hq⟩, by have := mxd_mem hq; omega⟩
theorem lay_word1 : ∀ k : K1, PyData.strOk k.word = true := by intro k; cases k <;> decide +kernel
theorem lay_word2 : ∀ k : K2, PyData.strOk k.word = true := by intro k; cases k <;> decide +kernel
mutual
theorem Part.lay {fs : List Str} : ∀ {p : Part} {sc : List Str}, p.ok fs sc → PyData.canLay0 p.data = true ∧ PyData.depth p.data ≤ 3 * p.deep
  | .num n, sc, h => by simp [Part.data, PyData.canLay0, PyData.canLayAll0, PyData.depth, PyData.depthAll, Part.deep]; decide +kernel
  | .name x, sc, h => by
    have := canLay_name h.2
    rw [PyData.canLay0] at this
    simp [Part.data, PyData.canLay0, PyData.canLayAll0, PyData.depth, PyData.depthAll, Part.deep, this]; decide +kernel
  | .fn x, sc, h => by
    have := canLay_name h.2
    rw [PyData.canLay0] at this
    simp [Part.data, PyData.canLay0, PyData.canLayAll0, PyData.depth, PyData.depthAll, Part.deep, this]; decide +kernel
  | .one k a, sc, h => by
    obtain ⟨h1, h2⟩ := Part.lay (p := a) h
    have hw := lay_word1 k
    simp only [Part.data, PyData.canLay0, PyData.canLayAll0, PyData.depth, PyData.depthAll, Part.deep, h1, hw, Bool.and_true, Bool.true_and]
    exact ⟨trivial, by omega⟩
  | .two k a b, sc, h => by
    obtain ⟨h1, h2⟩ := Part.lay (p := a) h.1
    obtain ⟨h3, h4⟩ := Part.lay (p := b) h.2
    have hw := lay_word2 k
    simp only [Part.data, PyData.canLay0, PyData.canLayAll0, PyData.depth, PyData.depthAll, Part.deep, h1, h3, hw, Bool.and_true, Bool.true_and]
    exact ⟨trivial, by omega⟩
  | .whn a b c, sc, h => by
    obtain ⟨h1, h2⟩ := Part.lay (p := a) h.1
    obtain ⟨h3, h4⟩ := Part.lay (p := b) h.2.1
    obtain ⟨h5, h6⟩ := Part.lay (p := c) h.2.2
    have hw : PyData.strOk "when" = true := by decide +kernel
    simp only [Part.data, PyData.canLay0, PyData.canLayAll0, PyData.depth, PyData.depthAll, Part.deep, h1, h3, h5, hw, Bool.and_true, Bool.true_and]
    exact ⟨trivial, by omega⟩
  | .letp r a, sc, h => by
    obtain ⟨h1, h2⟩ := Part.lay (p := a) h.2.2.2.2
    obtain ⟨h3, h4⟩ := Rows.lay (r := r) h.2.2.2.1 h.2.2.1
    have hw : PyData.strOk "let" = true := by decide +kernel
    simp only [Part.data, PyData.canLay0, PyData.canLayAll0, PyData.depth, PyData.depthAll, Part.deep, h1, h3, hw, Bool.and_true, Bool.true_and]
    exact ⟨trivial, by omega⟩
  | .shut a, sc, h => h.elim
theorem Rows.lay {fs : List Str} : ∀ {r : Rows} {sc : List Str}, r.ok fs sc → (∀ x ∈ r.names, isName x) → PyData.canLayAll0 r.datas = true ∧ PyData.depthAll r.datas ≤ 3 * r.deep + 1
  | .nil, sc, h, _ => by simp [Rows.datas, PyData.canLayAll0, PyData.depthAll]
  | .cons x a r, sc, h, hn => by
    obtain ⟨h1, h2⟩ := Part.lay (p := a) h.1
    obtain ⟨h3, h4⟩ := Rows.lay (r := r) h.2 fun y hy => hn y (List.mem_cons_of_mem _ hy)
    have hw := canLay_name (hn x (by show x ∈ x :: r.names; simp))
    rw [PyData.canLay0] at hw
    simp only [Rows.datas, PyData.canLay0, PyData.canLayAll0, PyData.depth, PyData.depthAll, Rows.deep, h1, h3, hw, Bool.and_true, Bool.true_and]
    exact ⟨trivial, by omega⟩
end
theorem Part.good.lay {p : Part} (h : p.good) : PyData.canLay0 p.data = true ∧ PyData.depth p.data ≤ 36 := by
  obtain ⟨⟨fs, sc, h1⟩, h2⟩ := h
  have := Part.lay h1
  exact ⟨this.1, by omega⟩
theorem shaped_parts {ps : List Part} (h : ∀ p ∈ ps, p.good) : SeqAt.shaped (.list (ps.map Part.data)) = true :=
  shaped_list (k := 36) (fun d hd => by obtain ⟨p, hp, rfl⟩ := List.mem_map.mp hd; exact (h p hp).lay.1) (fun d hd => by obtain ⟨p, hp, rfl⟩ := List.mem_map.mp hd; exact (h p hp).lay.2) (by decide)
theorem eqv_parts {ps : List Part} (h : ∀ p ∈ ps, p.good) : PyData.eqv (.list (ps.map Part.data)) (.list (ps.map Part.data)) = true :=
  PySem.SeqAt.eqv_refl _ (SeqAt.canLay_of_shaped (shaped_parts h))
/-- the rows' values -/
theorem Rows.get : ∀ {r : Rows} {i : Nat} {d : PyData}, r.datas[i]? = some d → ∃ x p, r.names[i]? = some x ∧ r.parts[i]? = some p ∧ d = .tuple [.str x, p.data]
  | .nil, i, d, h => by simp [Rows.datas] at h
  | .cons x a r, 0, d, h => by
    have h1 : some (PyData.tuple [.str x, a.data]) = some d := h
    cases h1
    exact ⟨x, a, rfl, rfl, rfl⟩
  | .cons x a r, i + 1, d, h => Rows.get (r := r) h
theorem Rows.len : ∀ r : Rows, r.datas.length = r.parts.length
  | .nil => rfl
  | .cons x a r => congrArg (· + 1) (Rows.len r)
def spKids : Sp := fun vs H Q _ => ∃ (v : V) (p : Part), vs = [v] ∧ Tp H v p.data ∧ p.good ∧ p.size ≤ 60 ∧ ∀ (l : Addr) (us : List V) (H' : Hp), H l = none → H' l = some (.lst us) → Tps H' us (p.kids.map Part.data) → Same H H' → Q (.ref l) H'
theorem not_whole {n d : Nat} {o : Option Int} (h : 1 ≤ n) : ¬ (HT.sIx n 0 (some 1) = 0 ∧ HT.sIx n d o = n) := by
  rintro ⟨h1, _⟩
  rw [show (1 : Int) = ((1 : Nat) : Int) from rfl, HT.sIx_nat] at h1
  omega
theorem g_in3 {K : PySem.W.Frag} {w : World} {H : Hp} {Q : VK} {p : Addr} {ss : List Str} {k : Str} {r : Bool} (h : SqT K H p (ss.map V.str)) (e : decide (k ∈ ss) = r) (q : Q (.bl r) H) : rInG K w false (.str k) (.ref p) H Q := g_inT h (by rw [e]; exact q)
def PARTSkvs : List (Str × V) := [("give", .int 2), ("plus", .int 2), ("less", .int 2), ("times", .int 2), ("below", .int 2), ("when", .int 3), ("pair", .int 2), ("left", .int 1), ("right", .int 1)]

/-! ### sums -/
def allGood (ps : List Part) : Prop := ∀ p ∈ ps, p.good
theorem sz_mem {q : Part} : ∀ {a : List Part}, q ∈ a → q.size ≤ sz a
  | p :: a, h => by
    show q.size ≤ p.size + sz a
    rcases List.mem_cons.mp h with rfl | h
    · omega
    · have := sz_mem h
      omega
theorem sz_rev : ∀ a : List Part, sz a.reverse = sz a
  | [] => rfl
  | p :: a => by
    rw [List.reverse_cons, sz_app, sz_rev a]
    show sz a + (p.size + 0) = p.size + sz a
    omega
/-! ### how deep -/
def dsz : List (Part × Nat) → Nat
  | [] => 0
  | (p, _) :: r => p.size + dsz r
def dmx : List (Part × Nat) → Nat
  | [] => 0
  | (p, d) :: r => max (d + p.deep) (dmx r)
theorem dsz_app : ∀ a b : List (Part × Nat), dsz (a ++ b) = dsz a + dsz b
  | [], b => by show dsz b = 0 + dsz b; omega
  | (p, d) :: a, b => by
    show p.size + dsz (a ++ b) = p.size + dsz a + dsz b
    rw [dsz_app a b]
    omega
theorem dmx_app : ∀ a b : List (Part × Nat), dmx (a ++ b) = max (dmx a) (dmx b)
  | [], b => by show dmx b = max 0 (dmx b); omega
  | (p, d) :: a, b => by
    show max (d + p.deep) (dmx (a ++ b)) = max (max (d + p.deep) (dmx a)) (dmx b)
    rw [dmx_app a b]
    omega
theorem dsz_map (d : Nat) : ∀ a : List Part, dsz (a.map fun p => (p, d)) = sz a
  | [] => rfl
  | p :: a => by
    show p.size + dsz _ = p.size + sz a
    rw [dsz_map d a]
theorem dmx_map (d : Nat) : ∀ a : List Part, a ≠ [] → dmx (a.map fun p => (p, d)) = d + mxd a
  | [], h => absurd rfl h
  | [p], _ => by show max (d + p.deep) 0 = d + max p.deep 0; omega
  | p :: q :: a, _ => by
    have ih := dmx_map d (q :: a) (by simp)
    show max (d + p.deep) (dmx ((q :: a).map fun p => (p, d))) = d + max p.deep (mxd (q :: a))
    rw [ih]
    omega
theorem dsz_len : ∀ a : List (Part × Nat), a.length ≤ dsz a
  | [] => Nat.le_refl _
  | (p, d) :: a => by
    have := dsz_len a
    have := p.size_pos
    show a.length + 1 ≤ p.size + dsz a
    omega
theorem dsz_mem {q : Part × Nat} : ∀ {a : List (Part × Nat)}, q ∈ a → q.1.size ≤ dsz a
  | (p, d) :: a, h => by
    show q.1.size ≤ p.size + dsz a
    rcases List.mem_cons.mp h with rfl | h
    · show p.size ≤ _; omega
    · have := dsz_mem h
      omega
def pd (q : Part × Nat) : PyData := .tuple [q.1.data, .int q.2]
theorem shaped_pd {ps : List (Part × Nat)} (h : ∀ q ∈ ps, q.1.good) : SeqAt.shaped (.list (ps.map pd)) = true :=
  shaped_list (k := 37) (fun d hd => by
      obtain ⟨p, hp, rfl⟩ := List.mem_map.mp hd
      simp only [pd, PyData.canLay0, PyData.canLayAll0, (h p hp).lay.1, Bool.and_true])
    (fun d hd => by
      obtain ⟨p, hp, rfl⟩ := List.mem_map.mp hd
      have := (h p hp).lay.2
      simp only [pd, PyData.depth, PyData.depthAll]
      omega) (by decide)
theorem sum_sz : ∀ a : List Part, (a.map fun q => (q.size : Int)).sum = sz a
  | [] => rfl
  | p :: a => by
    rw [List.map_cons, List.sum_cons, sum_sz a]
    show (p.size : Int) + _ = ((p.size + sz a : Nat) : Int)
    omega

/-! ### programs' rows -/
theorem Part.fine.good {fs sc : List Str} {p : Part} (h : p.fine fs sc) : p.good := ⟨⟨fs, sc, h.ok⟩, h.deep⟩
def Prog.bodies (P : Prog) : List Part := P.fs.map (·.body) ++ [P.asked]
theorem Prog.fine.goods {P : Prog} (h : P.fine) : ∀ p ∈ P.bodies, p.good ∧ p.size ≤ 60 := by
  intro p hp
  rcases List.mem_append.mp hp with hp | hp
  · obtain ⟨f, hf, rfl⟩ := List.mem_map.mp hp
    exact ⟨(h.fs f hf).body.good, (h.fs f hf).body.size⟩
  · rw [List.mem_singleton.mp hp]
    exact ⟨h.asked.good, h.asked.size⟩
theorem sz_le {k : Nat} : ∀ {a : List Part}, (∀ p ∈ a, p.size ≤ k) → sz a ≤ k * a.length
  | [], _ => Nat.zero_le _
  | p :: a, h => by
    have h1 := h p (by simp)
    have h2 := sz_le fun q hq => h q (List.mem_cons_of_mem _ hq)
    show p.size + sz a ≤ k * (a.length + 1)
    rw [Nat.mul_succ]
    omega
theorem Prog.fine.total {P : Prog} (h : P.fine) : sz P.bodies ≤ 540 := by
  have h1 := sz_le (k := 60) fun p hp => (h.goods p hp).2
  have h2 : P.bodies.length = P.fs.length + 1 := by
    show (P.fs.map _ ++ [_]).length = _
    rw [List.length_append, List.length_map]
    rfl
  have h3 := h.few
  omega
theorem Tp.prog {H : Hp} {v : V} {P : Prog} (h : Tp H v P.data) : ∃ a b u vs, v = .ref a ∧ H a = some (.tup [.ref b, u]) ∧ H b = some (.tup vs) ∧ Tps H vs (P.fs.map Fn1.data) ∧ Tp H u P.asked.data := by
  obtain ⟨a, x, u, rfl, ha, h1, h2⟩ := h.two
  obtain ⟨b, vs, rfl, hb, h3⟩ := h1.tup_inv
  exact ⟨a, b, u, vs, rfl, ha, hb, h3, h2⟩
theorem Tp.fn1 {H : Hp} {v : V} {f : Fn1} (h : Tp H v f.data) : ∃ a b u, v = .ref a ∧ H a = some (.tup [.str f.name, .ref b, u]) ∧ H b = some (.tup (f.things.map V.str)) ∧ Tp H u f.body.data := by
  obtain ⟨a, x, y, u, rfl, ha, h1, h2, h3⟩ := h.three
  obtain ⟨b, vs, rfl, hb, h4⟩ := h2.tup_inv
  have : vs = f.things.map V.str := by
    have : ∀ (ss : List Str) (vs : List V), Tps H vs (ss.map PyData.str) → vs = ss.map V.str := by
      intro ss
      induction ss with
      | nil => intro vs h; exact h.nil_inv
      | cons s ss ih =>
        intro vs h
        obtain ⟨v, us, rfl, hv, hu⟩ := Tps.cons_inv (ds := ss.map PyData.str) h
        rw [hv.str_inv, ih us hu]
        rfl
    exact this _ _ h4
  subst this
  rw [h1.str_inv] at ha
  exact ⟨a, b, u, rfl, ha, hb, h3⟩
def spLaw (K : PySem.W.Frag) : Sp := fun vs H Q _ => ∃ (a : Addr) (ns : List Int), vs = [.ref a] ∧ SqL K H a (ns.map V.int) ∧ ns.length ≤ 63 ∧ ∀ H', Q (.bl true) H'
/-- drawn programs -/
def spRight : Sp := fun vs H Q _ => ∃ (v : V) (P : Prog), vs = [v] ∧ Tp H v P.data ∧ P.fine ∧ ∀ H' : Hp, Same H H' → Q (.bl true) H'

/-! ### numbers, things, wants of functions -/
/-- f is the j-th function's name, or none is and j is how many there are -/
def NumAt (P : Prog) (f : Str) (j : Nat) : Prop := P.names[j]? = some f ∨ (f ∉ P.names ∧ j = P.names.length)
def spNum : Sp := fun vs H Q _ => ∃ (v : V) (P : Prog) (f : Str) (j : Nat), vs = [v, .str f] ∧ Tp H v P.data ∧ P.fine ∧ NumAt P f j ∧ ∀ H' : Hp, Same H H' → Q (.int j) H'
theorem pure_num {K : PySem.W.Frag} {w : World} : PureOk 2 spNum (t_number_of K w) 6 := by
  refine ⟨fun vs H Q E ⟨_, _, _, _, e, _⟩ => by rw [e]; rfl, ?_⟩
  rintro vs H Q E ⟨v, P, f, j, rfl, tP, hfine, hj, q⟩
  show t_number_of K w _ [some v, some (.str f), none, none, none, none] H
  unfold t_number_of
  obtain ⟨pa, fa, u, vs, rfl, epa, efa, tfs, tas⟩ := tP.prog
  walk_at "go"
  refine g_seqT ?_
  walk_at "go"
  refine g_ixT (.of epa) (atI_of (by decide) rfl) ?_
  refine g_isT (.of efa) fun dn hdn => ?_
  have hvl : vs.length = P.fs.length := by rw [tfs.length, List.length_map]
  have hfew := hfine.few
  refine lc_any vs.length (fun i acc H' => acc = ((P.fs.take i).map (·.name)).map V.str ∧ Same H H') hdn
    (fun H' _ s => ⟨by simp, s⟩) (fun i acc H' hi ⟨_, s⟩ => ⟨_, _, .of (s _ _ efa), List.getElem?_eq_getElem hi⟩) (fun acc H' ⟨_, s⟩ => ⟨_, .of (s _ _ efa), Nat.le_refl _⟩) ?_ ?_
  · rintro i x acc _ H8 hi hl ⟨rfl, s8⟩ hd8 ⟨rfl, hx⟩
    obtain ⟨dt, hdt, tx⟩ := tfs.get (hx _ (.of (s8 _ _ efa)))
    rw [List.getElem?_map] at hdt
    obtain ⟨f, hf, rfl⟩ := Option.map_eq_some_iff.mp hdt
    obtain ⟨a3, b3, u3, rfl, ea3, eb3, tu3⟩ := tx.fn1
    refine g_un3 (s8 _ _ ea3) ?_
    refine ⟨rfl, ?_⟩
    walk_at "go"
    refine g_T rfl ?_
    walk_at "go"
    refine lc_step hd8 hl (by show _ < 16777216; omega) fun H10 e10 c10 => ?_
    exact ⟨by rw [List.take_add_one, hf]; simp, Same.chg s8 hdn c10⟩
  rintro us H3 hd3 ⟨rfl, s3⟩
  rw [hvl, List.take_length] at hd3
  have hd3' : H3 dn = some (.lst (P.names.map V.str)) := hd3
  walk_at "go"
  refine g_inL (.of hd3') ?_
  walk_at "go"
  rcases hj with hj | ⟨hj, rfl⟩
  · refine g_T (decide_eq_true (List.mem_of_getElem? hj)) ?_
    walk_at "go"
    refine g_tyl (.of hd3') ?_
    walk_at "go"
    refine g_indexS (.of hd3') hfine.nd hj ?_
    exact q H3 s3
  · refine g_F (decide_eq_false hj) ?_
    walk_at "go"
    refine g_lenL (.of hd3') ?_
    rw [List.length_map]
    exact q H3 s3
/-- the things of the function f -/
def ThingsAt (P : Prog) (f : Str) (ts : List Str) : Prop := (∃ (j : Nat) (fn : Fn1), P.fs[j]? = some fn ∧ fn.name = f ∧ ts = fn.things) ∨ (f ∉ P.names ∧ ts = [])
def spThings : Sp := fun vs H Q _ => ∃ (v : V) (P : Prog) (f : Str) (ts : List Str), vs = [v, .str f] ∧ Tp H v P.data ∧ P.fine ∧ ThingsAt P f ts ∧ ∀ (a : Addr) (H' : Hp), H' a = some (.tup (ts.map V.str)) → Same H H' → Q (.ref a) H'
theorem pure_things {K : PySem.W.Frag} {w : World} : PureOk 2 spThings (t_things_of K w spNum) 3 := by
  refine ⟨fun vs H Q E ⟨_, _, _, _, e, _⟩ => by rw [e]; rfl, ?_⟩
  rintro vs H Q E ⟨v, P, f, ts, rfl, tP, hfine, hts, q⟩
  show t_things_of K w _ _ [some v, some (.str f), none] H
  unfold t_things_of
  walk_at "go"
  obtain ⟨j, hj, hjt⟩ : ∃ j, NumAt P f j ∧ ((∃ fn, P.fs[j]? = some fn ∧ ts = fn.things) ∨ (j = P.fs.length ∧ ts = [])) := by
    rcases hts with ⟨j, fn, h1, h2, h3⟩ | ⟨h1, h2⟩
    · exact ⟨j, .inl (by show (P.fs.map _)[j]? = _; rw [List.getElem?_map, h1, ← h2]; rfl), .inl ⟨fn, h1, h3⟩⟩
    · exact ⟨_, .inr ⟨h1, rfl⟩, .inr ⟨by show (P.fs.map _).length = _; rw [List.length_map], h2⟩⟩
  refine ⟨v, P, f, j, rfl, tP, hfine, hj, fun H1 s1 => ?_⟩
  obtain ⟨pa, fa, u, vs, rfl, epa, efa, tfs, tas⟩ := (tP.mono (Same.tk s1)).prog
  have hvl : vs.length = P.fs.length := by rw [tfs.length, List.length_map]
  walk_at "go"
  refine g_ixT (.of epa) (atI_of (by decide) rfl) ?_
  walk_at "go"
  refine g_lenT (.of efa) ?_
  walk_at "go"
  rcases hjt with ⟨fn, h1, rfl⟩ | ⟨rfl, rfl⟩
  · have hlt := (List.getElem?_eq_some_iff.mp h1).1
    refine g_F (decide_eq_false (by omega)) ?_
    walk_at "go"
    refine g_ixT (.of epa) (atI_of (by decide) rfl) ?_
    walk_at "go"
    obtain ⟨x, hx, tx⟩ := tfs.at (i := j) (d := fn.data) (by rw [List.getElem?_map, h1]; rfl)
    refine g_ixT (.of efa) (atI_nat hx) ?_
    walk_at "go"
    obtain ⟨a3, b3, u3, rfl, ea3, eb3, tu3⟩ := tx.fn1
    refine g_ixT (.of ea3) (atI_of (by decide) rfl) ?_
    exact q b3 H1 eb3 s1
  · refine g_T (decide_eq_true (by omega)) ?_
    walk_at "go"
    intro a2 H2 na2 ea2 s2
    exact q a2 H2 ea2 (s1.trans s2)
def spWants : Sp := fun vs H Q _ => ∃ (v : V) (P : Prog) (f : Str) (ts : List Str), vs = [v, .str f] ∧ Tp H v P.data ∧ P.fine ∧ ThingsAt P f ts ∧ ∀ (H' : Hp), Same H H' → Q (.int ts.length) H'
theorem pure_wants {K : PySem.W.Frag} {w : World} : PureOk 2 spWants (t_wants K w spThings) 2 := by
  refine ⟨fun vs H Q E ⟨_, _, _, _, e, _⟩ => by rw [e]; rfl, ?_⟩
  rintro vs H Q E ⟨v, P, f, ts, rfl, tP, hfine, hts, q⟩
  show t_wants K w _ _ [some v, some (.str f)] H
  unfold t_wants
  walk_at "go"
  refine ⟨v, P, f, ts, rfl, tP, hfine, hts, fun a H1 ea s1 => ?_⟩
  refine g_lenT (.of ea) ?_
  rw [List.length_map]
  exact q H1 s1

/-! ### parts by their words -/
def Part.word : Part → Str
  | .num _ => "number"
  | .name _ => "name"
  | .fn _ => "fun"
  | .one k _ => k.word
  | .two k _ _ => k.word
  | .whn _ _ _ => "when"
  | .letp _ _ => "let"
  | .shut _ => "shut"
def Part.args : Part → List PyData
  | .num n => [.int n]
  | .name x => [.str x]
  | .fn f => [.str f]
  | .one _ a => [a.data]
  | .two _ a b => [a.data, b.data]
  | .whn a b c => [a.data, b.data, c.data]
  | .letp r a => [.tuple r.datas, a.data]
  | .shut a => [a.data]
theorem Part.data_eq (p : Part) : p.data = .tuple (.str p.word :: p.args) := by cases p <;> rfl
/-- the parts that are things of a part's tuple -/
def Part.subs : Part → List Part
  | .one _ a => [a]
  | .two _ a b => [a, b]
  | .whn a b c => [a, b, c]
  | .shut a => [a]
  | _ => []
def plainWord (x : Str) : Prop := x ∉ [("number" : Str), "fun", "let", "name"]
theorem Part.args_subs {p : Part} (h : plainWord p.word) : p.args = p.subs.map Part.data := by
  cases p with
  | num n => exact absurd (show ("number" : Str) ∈ [("number" : Str), "fun", "let", "name"] from by simp) h
  | name n => exact absurd (show ("name" : Str) ∈ [("number" : Str), "fun", "let", "name"] from by simp) h
  | fn n => exact absurd (show ("fun" : Str) ∈ [("number" : Str), "fun", "let", "name"] from by simp) h
  | letp r a => exact absurd (show ("let" : Str) ∈ [("number" : Str), "fun", "let", "name"] from by simp) h
  | _ => rfl
theorem Tp.part {H : Hp} {v : V} {p : Part} (h : Tp H v p.data) : ∃ a xs, v = .ref a ∧ H a = some (.tup (.str p.word :: xs)) ∧ Tps H xs p.args := by
  rw [p.data_eq] at h
  obtain ⟨a, xs, rfl, h1, h2⟩ := h.tup_inv
  obtain ⟨x, us, rfl, hx, hu⟩ := h2.cons_inv
  rw [hx.str_inv] at h1
  exact ⟨a, us, rfl, h1, hu⟩
theorem word_give {p : Part} (h : p.word = "give") : ∃ a b, p = .two .give a b := by
  cases p with
  | two k a b =>
    cases k with
    | give => exact ⟨a, b, rfl⟩
    | _ => exact absurd h (by simp only [Part.word, K1.word, K2.word]; decide)
  | one k a => cases k <;> exact absurd h (by simp only [Part.word, K1.word, K2.word]; decide)
  | _ => exact absurd h (by simp only [Part.word, K1.word, K2.word]; decide)
theorem word_fun {p : Part} (h : p.word = "fun") : ∃ f, p = .fn f := by
  cases p with
  | fn f => exact ⟨f, rfl⟩
  | two k a b => cases k <;> exact absurd h (by simp only [Part.word, K1.word, K2.word]; decide)
  | one k a => cases k <;> exact absurd h (by simp only [Part.word, K1.word, K2.word]; decide)
  | _ => exact absurd h (by simp only [Part.word, K1.word, K2.word]; decide)
mutual
/-- how many parts, those within shut ones too -/
def Part.big : Part → Nat
  | .num _ => 1
  | .name _ => 1
  | .fn _ => 1
  | .one _ a => 1 + a.big
  | .two _ a b => 1 + (a.big + b.big)
  | .whn a b c => 1 + (a.big + (b.big + c.big))
  | .letp r a => 1 + (r.big + a.big)
  | .shut a => 1 + a.big
def Rows.big : Rows → Nat
  | .nil => 0
  | .cons _ a r => a.big + r.big
end
def bsum : List Part → Nat
  | [] => 0
  | p :: r => p.big + bsum r
theorem bsum_app : ∀ a b : List Part, bsum (a ++ b) = bsum a + bsum b
  | [], b => by show bsum b = 0 + bsum b; omega
  | p :: a, b => by
    show p.big + bsum (a ++ b) = p.big + bsum a + bsum b
    rw [bsum_app a b]
    omega
theorem Part.big_pos : ∀ p : Part, 1 ≤ p.big
  | .num _ => Nat.le_refl _
  | .name _ => Nat.le_refl _
  | .fn _ => Nat.le_refl _
  | .one _ _ => Nat.le_add_right _ _
  | .two _ _ _ => Nat.le_add_right _ _
  | .whn _ _ _ => Nat.le_add_right _ _
  | .letp _ _ => Nat.le_add_right _ _
  | .shut _ => Nat.le_add_right _ _
theorem bsum_len : ∀ a : List Part, a.length ≤ bsum a
  | [] => Nat.le_refl _
  | p :: a => by
    have := bsum_len a
    have := p.big_pos
    show a.length + 1 ≤ p.big + bsum a
    omega
theorem bsum_mem {q : Part} : ∀ {a : List Part}, q ∈ a → q.big ≤ bsum a
  | p :: a, h => by
    show q.big ≤ p.big + bsum a
    rcases List.mem_cons.mp h with rfl | h
    · omega
    · have := bsum_mem h
      omega
theorem Part.big_subs {p : Part} (h : plainWord p.word) : p.big = 1 + bsum p.subs := by
  cases p with
  | num n => rfl
  | name n => rfl
  | fn n => rfl
  | letp r a => exact absurd (show ("let" : Str) ∈ [("number" : Str), "fun", "let", "name"] from by simp) h
  | one k a => show 1 + a.big = 1 + (a.big + 0); omega
  | two k a b => show 1 + (a.big + b.big) = 1 + (a.big + (b.big + 0)); omega
  | whn a b c => show 1 + (a.big + (b.big + c.big)) = 1 + (a.big + (b.big + (c.big + 0))); omega
  | shut a => show 1 + a.big = 1 + (a.big + 0); omega
mutual
/-- a part of which nothing is asked but that its functions are there; shut ones too -/
def Part.wf (fs : List Str) : Part → Prop
  | .num _ => True
  | .name _ => True
  | .fn f => f ∈ fs
  | .one _ a => a.wf fs
  | .two _ a b => a.wf fs ∧ b.wf fs
  | .whn a b c => a.wf fs ∧ b.wf fs ∧ c.wf fs
  | .letp r a => r.wf fs ∧ a.wf fs
  | .shut a => a.wf fs
def Rows.wf (fs : List Str) : Rows → Prop
  | .nil => True
  | .cons _ a r => a.wf fs ∧ r.wf fs
end
mutual
theorem Part.ok_wf {fs : List Str} : ∀ {p : Part} {sc : List Str}, p.ok fs sc → p.wf fs ∧ p.big = p.size
  | .num n, sc, h => ⟨trivial, rfl⟩
  | .name x, sc, h => ⟨trivial, rfl⟩
  | .fn x, sc, h => ⟨h.1, rfl⟩
  | .one k a, sc, h => by
    obtain ⟨h1, h2⟩ := Part.ok_wf (p := a) h
    exact ⟨h1, by show 1 + a.big = 1 + a.size; rw [h2]⟩
  | .two k a b, sc, h => by
    obtain ⟨h1, h2⟩ := Part.ok_wf (p := a) h.1
    obtain ⟨h3, h4⟩ := Part.ok_wf (p := b) h.2
    exact ⟨⟨h1, h3⟩, by show 1 + (a.big + b.big) = 1 + (a.size + b.size); rw [h2, h4]⟩
  | .whn a b c, sc, h => by
    obtain ⟨h1, h2⟩ := Part.ok_wf (p := a) h.1
    obtain ⟨h3, h4⟩ := Part.ok_wf (p := b) h.2.1
    obtain ⟨h5, h6⟩ := Part.ok_wf (p := c) h.2.2
    exact ⟨⟨h1, h3, h5⟩, by show 1 + (a.big + (b.big + c.big)) = 1 + (a.size + (b.size + c.size)); rw [h2, h4, h6]⟩
  | .letp r a, sc, h => by
    obtain ⟨h1, h2⟩ := Part.ok_wf (p := a) h.2.2.2.2
    obtain ⟨h3, h4⟩ := Rows.ok_wf (r := r) h.2.2.2.1
    exact ⟨⟨h3, h1⟩, by show 1 + (r.big + a.big) = 1 + (r.size + a.size); rw [h2, h4]⟩
  | .shut a, sc, h => h.elim
theorem Rows.ok_wf {fs : List Str} : ∀ {r : Rows} {sc : List Str}, r.ok fs sc → r.wf fs ∧ r.big = r.size
  | .nil, sc, h => ⟨trivial, rfl⟩
  | .cons x a r, sc, h => by
    obtain ⟨h1, h2⟩ := Part.ok_wf (p := a) h.1
    obtain ⟨h3, h4⟩ := Rows.ok_wf (r := r) h.2
    exact ⟨⟨h1, h3⟩, by show a.big + r.big = a.size + r.size; rw [h2, h4]⟩
end
theorem Part.wf_subs {fs : List Str} {p : Part} (h : p.wf fs) : ∀ q ∈ p.subs, q.wf fs := by
  cases p with
  | one k a => intro q hq; rw [List.mem_singleton.mp hq]; exact h
  | shut a => intro q hq; rw [List.mem_singleton.mp hq]; exact h
  | two k a b =>
    intro q hq
    simp only [Part.subs, List.mem_cons, List.not_mem_nil, or_false] at hq
    rcases hq with rfl | rfl
    · exact h.1
    · exact h.2
  | whn a b c =>
    intro q hq
    simp only [Part.subs, List.mem_cons, List.not_mem_nil, or_false] at hq
    rcases hq with rfl | rfl | rfl
    · exact h.1
    · exact h.2.1
    · exact h.2.2
  | _ => intro q hq; exact absurd hq (by simp [Part.subs])
/-- what stands ahead of a part's gives; the things that it is given, in their order -/
def Part.head : Part → Part
  | .two .give a _ => a.head
  | p => p
def Part.given : Part → List Part
  | .two .give a b => a.given ++ [b]
  | _ => []
theorem head_not {p : Part} (h : p.word ≠ "give") : p.head = p ∧ p.given = [] := by
  cases p with
  | two k a b =>
    cases k with
    | give => exact absurd rfl h
    | _ => exact ⟨rfl, rfl⟩
  | _ => exact ⟨rfl, rfl⟩
theorem head_word : ∀ (n : Nat) (p : Part), p.big ≤ n → p.head.word ≠ "give" := by
  intro n
  induction n with
  | zero => intro p h; have := p.big_pos; omega
  | succ n ih =>
    intro p h
    by_cases hw : p.word = "give"
    · obtain ⟨a, b, rfl⟩ := word_give hw
      have h1 : 1 + (a.big + b.big) ≤ n + 1 := h
      exact ih a (by omega)
    · rw [(head_not hw).1]
      exact hw
theorem Part.head_wf {fs : List Str} : ∀ (n : Nat) (p : Part), p.big ≤ n → p.wf fs → p.head.wf fs := by
  intro n
  induction n with
  | zero => intro p h; have := p.big_pos; omega
  | succ n ih =>
    intro p h hw'
    by_cases hw : p.word = "give"
    · obtain ⟨a, b, rfl⟩ := word_give hw
      have h1 : 1 + (a.big + b.big) ≤ n + 1 := h
      exact ih a (by omega) hw'.1
    · rw [(head_not hw).1]
      exact hw'
/-- how many things f wants -/
def Prog.wantsOf (P : Prog) (f : Str) : Nat := match P.fs.find? (fun g => decide (g.name = f)) with
  | some g => g.things.length
  | none => 0
theorem Prog.at_name {P : Prog} {f : Str} (h : f ∈ P.names) : ∃ (j : Nat) (fn : Fn1), P.fs[j]? = some fn ∧ fn.name = f ∧ P.wantsOf f = fn.things.length := by
  obtain ⟨g0, hg0, hn0⟩ := List.mem_map.mp h
  cases e : P.fs.find? (fun g => decide (g.name = f)) with
  | none =>
    have := List.find?_eq_none.mp e g0 hg0
    simp [hn0] at this
  | some g =>
    obtain ⟨j, hj⟩ := List.mem_iff_getElem?.mp (List.mem_of_find?_eq_some e)
    have h2 := List.find?_some e
    exact ⟨j, g, hj, of_decide_eq_true h2, by unfold Prog.wantsOf; rw [e]⟩
/-- is it a worth -/
def Part.worth (P : Prog) (p : Part) : Bool := decide (p.word ∈ [("number" : Str), "pair"]) || match p.head with
  | .fn f => decide (p.given.length < P.wantsOf f)
  | _ => false
theorem worth_fn {P : Prog} {p : Part} {f : Str} (h : p.head = .fn f) : p.worth P = decide (p.given.length < P.wantsOf f) := by
  unfold Part.worth
  rw [h]
  have : p.word ∉ [("number" : Str), "pair"] := by
    by_cases hw : p.word = "give"
    · rw [hw]; decide
    · rw [(head_not hw).1] at h
      rw [h]
      simp only [Part.word]
      decide
  rw [decide_eq_false this]
  rfl
theorem worth_no {P : Prog} {p : Part} (h : p.head.word ≠ "fun") : p.worth P = decide (p.word ∈ [("number" : Str), "pair"]) := by
  unfold Part.worth
  cases e : p.head with
  | fn f => rw [e] at h; exact absurd rfl h
  | _ => simp
/-- [x for x in t] of a tuple, whatever the slot is -/
theorem lc_copy {K : PySem.W.Frag} {H : Hp} {Qd : Addr → Hp → Prop} {a : Addr} {xs : List V} {i : Nat} {σ : L2.St} (h1 : ∀ x : V, ((wipe σ [i]).set i (some x))[i]? = some (some x)) (h2 : ∀ x : V, wipe ((wipe σ [i]).set i (some x)) [i] = wipe σ [i])
    (ea : H a = some (.tup xs)) (hl : xs.length ≤ 1000) (q : ∀ (l : Addr) (H' : Hp), H l = none → H' l = some (.lst xs) → Same H H' → Qd l H') :
    ∃ a', V.ref a = .ref a' ∧ (∃ xs, SqT K H a' xs) ∧ LcR (Itt K a') (gName i) tYes (tVar i) [i] σ H Qd := by
  refine g_isT (.of ea) fun dn hdn => ?_
  refine lc_any xs.length (fun j acc H' => acc = xs.take j ∧ Same H H') hdn
    (fun H' _ s => ⟨rfl, s⟩) (fun j acc H' hj ⟨_, s⟩ => ⟨_, _, .of (s _ _ ea), List.getElem?_eq_getElem hj⟩) (fun acc H' ⟨_, s⟩ => ⟨_, .of (s _ _ ea), Nat.le_refl _⟩) ?_ ?_
  · rintro j x acc _ H5 hj hl' ⟨rfl, s5⟩ hd5 ⟨rfl, hx⟩
    have hx' := hx _ (.of (s5 _ _ ea))
    refine g_name (σ' := (wipe σ [i]).set i (some x)) rfl ?_
    refine ⟨h2 x, ?_⟩
    refine g_yes (g_T rfl ?_)
    refine g_var (h1 x) ?_
    refine lc_step hd5 hl' (by show _ < 16777216; omega) fun H6 e6 c6 => ?_
    exact ⟨by rw [List.take_add_one, hx']; rfl, Same.chg s5 hdn c6⟩
  rintro us H5 hd5 ⟨rfl, s5⟩
  rw [List.take_length] at hd5
  exact q dn H5 hdn hd5 s5
/-- rows of a list -/
def Rows.of : List (Str × Part) → Rows
  | [] => .nil
  | q :: r => .cons q.1 q.2 (Rows.of r)
def rowD (q : Str × Part) : PyData := .tuple [.str q.1, q.2.data]
theorem Rows.of_datas : ∀ l : List (Str × Part), (Rows.of l).datas = l.map rowD
  | [] => rfl
  | q :: r => by
    show _ :: (Rows.of r).datas = _
    rw [Rows.of_datas r]
    rfl
theorem Rows.of_names : ∀ l : List (Str × Part), (Rows.of l).names = l.map (·.1)
  | [] => rfl
  | q :: r => by
    show _ :: (Rows.of r).names = _
    rw [Rows.of_names r]
    rfl
theorem Rows.of_wf {fs : List Str} : ∀ l : List (Str × Part), (∀ q ∈ l, q.2.wf fs) → (Rows.of l).wf fs
  | [], _ => trivial
  | q :: r, h => ⟨h q (by simp), Rows.of_wf r fun p hp => h p (List.mem_cons_of_mem _ hp)⟩
theorem Rows.of_big : ∀ l : List (Str × Part), (Rows.of l).big = bsum (l.map (·.2))
  | [] => rfl
  | q :: r => by
    show q.2.big + (Rows.of r).big = q.2.big + bsum _
    rw [Rows.of_big r]
/-- a pen's is no tuple -/
theorem pen_tup {H : Hp} {pen L b : Addr} {xs : List V} (h : PenAt H pen L) (e : H b = some (.tup xs)) : b ≠ pen := by
  obtain ⟨_, _, _, hp, _⟩ := h
  rintro rfl
  rw [hp] at e
  cases e
theorem pen_tk {H H' : Hp} {pen L : Addr} (h : PenAt H pen L) (c : ∀ b o, b ≠ pen → H b = some o → H' b = some o) : Tk H H' := fun b xs e => c b _ (pen_tup h e) e
/-! layable, so deep -/
def layD (k : Nat) (d : PyData) : Prop := PyData.canLay0 d = true ∧ PyData.depth d ≤ k
def Part.lk (k : Nat) (p : Part) : Prop := layD k p.data
theorem layAll_of : ∀ {ds : List PyData}, (∀ d ∈ ds, PyData.canLay0 d = true) → PyData.canLayAll0 ds = true
  | [], _ => rfl
  | d :: ds, h => by rw [PyData.canLayAll0, h d (by simp), layAll_of fun e he => h e (List.mem_cons_of_mem _ he)]; rfl
theorem depAll_of {k : Nat} : ∀ {ds : List PyData}, (∀ d ∈ ds, PyData.depth d ≤ k) → PyData.depthAll ds ≤ k
  | [], _ => by rw [PyData.depthAll]; omega
  | d :: ds, h => by
    have h1 := h d (by simp)
    have h2 := depAll_of fun e he => h e (List.mem_cons_of_mem _ he)
    rw [PyData.depthAll]
    omega
theorem layAll_mem : ∀ {ds : List PyData}, PyData.canLayAll0 ds = true → ∀ d ∈ ds, PyData.canLay0 d = true
  | e :: ds, h, d, hd => by
    rw [PyData.canLayAll0, Bool.and_eq_true] at h
    rcases List.mem_cons.mp hd with rfl | hd
    · exact h.1
    · exact layAll_mem h.2 d hd
theorem depAll_mem {k : Nat} : ∀ {ds : List PyData}, PyData.depthAll ds ≤ k → ∀ d ∈ ds, PyData.depth d ≤ k
  | e :: ds, h, d, hd => by
    rw [PyData.depthAll] at h
    rcases List.mem_cons.mp hd with rfl | hd
    · omega
    · exact depAll_mem (by omega) d hd
theorem layD.mono {j k : Nat} {d : PyData} (h : layD j d) (hjk : j ≤ k) : layD k d := ⟨h.1, Nat.le_trans h.2 hjk⟩
theorem Part.lk.mono {j k : Nat} {p : Part} (h : p.lk j) (hjk : j ≤ k) : p.lk k := layD.mono h hjk
theorem layD_tup {k : Nat} {ds : List PyData} (h : ∀ d ∈ ds, layD k d) : layD (k + 1) (.tuple ds) :=
  ⟨by rw [PyData.canLay0]; exact layAll_of fun d hd => (h d hd).1, by rw [PyData.depth]; have := depAll_of fun d hd => (h d hd).2; omega⟩
theorem layD_mem {k : Nat} {ds : List PyData} (h : layD k (.tuple ds)) : ∀ d ∈ ds, layD k d := by
  obtain ⟨h1, h2⟩ := h
  rw [PyData.canLay0] at h1
  rw [PyData.depth] at h2
  exact fun d hd => ⟨layAll_mem h1 d hd, depAll_mem (by omega) d hd⟩
theorem layD_str {x : Str} {k : Nat} (h : PyData.strOk x = true) : layD k (.str x) := ⟨by rw [PyData.canLay0]; exact h, by rw [PyData.depth]; omega⟩
theorem layD_int {n : Int} {k : Nat} : layD k (.int n) := ⟨by rw [PyData.canLay0], by rw [PyData.depth]; omega⟩
theorem layD_name {x : Str} {k : Nat} (h : isName x) : layD k (.str x) := ⟨canLay_name h, by rw [PyData.depth]; omega⟩
theorem word_ok (p : Part) : PyData.strOk p.word = true := by
  cases p with
  | one k a => exact lay_word1 k
  | two k a b => exact lay_word2 k
  | num n => show PyData.strOk "number" = true; decide +kernel
  | name n => show PyData.strOk "name" = true; decide +kernel
  | fn n => show PyData.strOk "fun" = true; decide +kernel
  | whn a b c => show PyData.strOk "when" = true; decide +kernel
  | letp r a => show PyData.strOk "let" = true; decide +kernel
  | shut a => show PyData.strOk "shut" = true; decide +kernel
theorem Part.lk_of {p : Part} {k : Nat} (h : ∀ d ∈ p.args, layD k d) : p.lk (k + 1) := by
  unfold Part.lk
  rw [p.data_eq]
  refine layD_tup fun d hd => ?_
  rcases List.mem_cons.mp hd with rfl | hd
  · exact layD_str (word_ok p)
  · exact h d hd
theorem Part.lk_subs {p : Part} {k : Nat} (hw : plainWord p.word) (h : p.lk k) : ∀ q ∈ p.subs, q.lk k := by
  intro q hq
  unfold Part.lk at h
  rw [p.data_eq, Part.args_subs hw] at h
  exact layD_mem h q.data (List.mem_cons_of_mem _ (List.mem_map.mpr ⟨q, hq, rfl⟩))
theorem Part.lk_num (n : Int) : (Part.num n).lk 1 := Part.lk_of (k := 0) fun d hd => by
  rw [List.mem_singleton.mp (show d ∈ [PyData.int n] from hd)]
  exact layD_int
theorem Part.lk_fn {f : Str} (h : isName f) : (Part.fn f).lk 1 := Part.lk_of (k := 0) fun d hd => by
  rw [List.mem_singleton.mp (show d ∈ [PyData.str f] from hd)]
  exact layD_name h
theorem Part.lk_shut {a : Part} {k : Nat} (h : a.lk k) : (Part.shut a).lk (k + 1) := Part.lk_of fun d hd => by
  rw [List.mem_singleton.mp (show d ∈ [a.data] from hd)]
  exact h
theorem Part.lk_two {a b : Part} {k : Nat} {c : K2} (h : a.lk k) (h2 : b.lk k) : (Part.two c a b).lk (k + 1) := Part.lk_of fun d hd => by
  have hd' : d ∈ [a.data, b.data] := hd
  simp only [List.mem_cons, List.not_mem_nil, or_false] at hd'
  rcases hd' with rfl | rfl
  · exact h
  · exact h2
theorem Part.lk_ok {fs sc : List Str} {p : Part} (h : p.ok fs sc) : p.lk (3 * p.deep) := Part.lay h
theorem shaped_lk {k : Nat} {ps : List Part} (h : ∀ p ∈ ps, p.lk k) (hk : k ≤ 63) : SeqAt.shaped (.list (ps.map Part.data)) = true :=
  shaped_list (k := k) (fun d hd => by obtain ⟨p, hp, rfl⟩ := List.mem_map.mp hd; exact (h p hp).1) (fun d hd => by obtain ⟨p, hp, rfl⟩ := List.mem_map.mp hd; exact (h p hp).2) hk
theorem cut_tail {x : V} {xs : List V} : cutV (x :: xs) (some 1) none = xs := by
  unfold cutV
  rw [HT.sIx_none, show (1 : Int) = ((1 : Nat) : Int) from rfl, HT.sIx_nat, List.length_cons, Nat.min_eq_left (by omega)]
  show xs.take _ = xs
  rw [List.take_of_length_le (by omega)]
theorem subs_few (p : Part) : p.subs.length ≤ 1000 := by
  cases p with
  | one k a => show 1 ≤ 1000; decide
  | two k a b => show 2 ≤ 1000; decide
  | whn a b c => show 3 ≤ 1000; decide
  | shut a => show 1 ≤ 1000; decide
  | _ => show 0 ≤ 1000; decide
/-- a part of the same kind, with other parts within -/
theorem same_kind {fs : List Str} {p : Part} (hw : plainWord p.word) (hs : p.word ≠ "shut") {qs : List Part} (hl : qs.length = p.kids.length) (hq : ∀ q ∈ qs, q.wf fs) : ∃ q : Part, q.data = .tuple (.str p.word :: qs.map Part.data) ∧ q.wf fs ∧ q.big = 1 + bsum qs := by
  cases p with
  | one k a =>
    match qs, hl with
    | [b], _ => exact ⟨.one k b, rfl, hq b (by simp), rfl⟩
  | two k a b =>
    match qs, hl with
    | [c, d], _ => exact ⟨.two k c d, rfl, ⟨hq c (by simp), hq d (by simp)⟩, rfl⟩
  | whn a b c =>
    match qs, hl with
    | [d, e, f], _ => exact ⟨.whn d e f, rfl, ⟨hq d (by simp), hq e (by simp), hq f (by simp)⟩, rfl⟩
  | shut a => exact absurd rfl hs
  | num n => exact absurd (show ("number" : Str) ∈ [("number" : Str), "fun", "let", "name"] from by simp) hw
  | name n => exact absurd (show ("name" : Str) ∈ [("number" : Str), "fun", "let", "name"] from by simp) hw
  | fn n => exact absurd (show ("fun" : Str) ∈ [("number" : Str), "fun", "let", "name"] from by simp) hw
  | letp r a => exact absurd (show ("let" : Str) ∈ [("number" : Str), "fun", "let", "name"] from by simp) hw
theorem subs_kids {p : Part} (hw : plainWord p.word) (hs : p.word ≠ "shut") : p.subs = p.kids := by
  cases p with
  | letp r a => exact absurd (show ("let" : Str) ∈ [("number" : Str), "fun", "let", "name"] from by simp) hw
  | shut a => exact absurd rfl hs
  | _ => rfl
theorem not_name {p : Part} (hw : plainWord p.word) : p.word ≠ "name" := fun e => hw (by rw [e]; simp)
theorem word_cases (p : Part) : (∃ n, p = .num n) ∨ (∃ x, p = .name x) ∨ (∃ f, p = .fn f) ∨ (∃ r a, p = .letp r a) ∨ (∃ a, p = .shut a) ∨ (plainWord p.word ∧ p.word ≠ "shut") := by
  cases p with
  | num n => exact .inl ⟨n, rfl⟩
  | name n => exact .inr (.inl ⟨n, rfl⟩)
  | fn n => exact .inr (.inr (.inl ⟨n, rfl⟩))
  | letp r a => exact .inr (.inr (.inr (.inl ⟨r, a, rfl⟩)))
  | shut a => exact .inr (.inr (.inr (.inr (.inl ⟨a, rfl⟩))))
  | one k a => exact .inr (.inr (.inr (.inr (.inr (by cases k <;> (simp only [plainWord, Part.word, K1.word]; decide))))))
  | two k a b => exact .inr (.inr (.inr (.inr (.inr (by cases k <;> (simp only [plainWord, Part.word, K2.word]; decide))))))
  | whn a b c => exact .inr (.inr (.inr (.inr (.inr (by simp only [plainWord, Part.word]; decide)))))
def Rows.list : Rows → List (Str × Part)
  | .nil => []
  | .cons x a r => (x, a) :: r.list
theorem Rows.list_datas : ∀ r : Rows, r.datas = r.list.map rowD
  | .nil => rfl
  | .cons x a r => by
    show _ :: r.datas = _ :: r.list.map rowD
    rw [Rows.list_datas r]
    rfl
theorem Rows.list_parts : ∀ r : Rows, r.parts = r.list.map (·.2)
  | .nil => rfl
  | .cons x a r => by
    show a :: r.parts = _
    rw [Rows.list_parts r]
    rfl
theorem Rows.list_names : ∀ r : Rows, r.names = r.list.map (·.1)
  | .nil => rfl
  | .cons x a r => by
    show x :: r.names = _
    rw [Rows.list_names r]
    rfl

/-! ### pens, parts: for the search -/
theorem ne_pen {H : Hp} {pen L a : Addr} (h : PenAt H pen L) (h' : Fr H a) : pen ≠ a := (h.ne h').1
theorem ne_penL {H : Hp} {pen L a : Addr} (h : PenAt H pen L) (h' : Fr H a) : L ≠ a := (h.ne h').2
theorem sz_take {ps : List Part} {i : Nat} {q : Part} (h : ps[i]? = some q) : sz (ps.take (i + 1)) = sz (ps.take i) + q.size := by
  rw [List.take_add_one, h, sz_app]
  show _ + (q.size + 0) = _
  omega
theorem Chg.to_pen {H H' : Hp} {pen L b : Addr} {xs : List V} (c : Chg pen H H') (hP : PenAt H pen L) (h : H b = some (.tup xs)) : H' b = some (.tup xs) := c b _ (pen_tup hP h) h
/-- a comprehension that draws -/
theorem lc_mapP {K : PySem.W.Frag} {H1 : Hp} {g : TG} {te : TE} {vs : List Nat} {σ : L2.St} {a : Addr} {xs : List V} {Qd : Addr → Hp → Prop} {pen L : Addr} (ea : H1 a = some (.tup xs)) (hl : xs.length ≤ 100000) (hP : PenAt H1 pen L) (F : Nat → V → Hp → Prop) (hF : ∀ i y H H', Tk H H' → F i y H → F i y H')
    (hs : ∀ (i : Nat) x H' (Nx : V → Hp → Prop), xs[i]? = some x → PenAt H' pen L → Chg pen H1 H' → (∀ y H4, PenAt H4 pen L → Chg pen H' H4 → F i y H4 → Nx y H4) → g x (wipe σ vs) H' fun σ2 H2 => wipe σ2 vs = wipe σ vs ∧ te σ2 H2 Nx)
    (hd : ∀ D (ys : List V) H', Fr H1 D → H' D = some (.lst ys) → ys.length = xs.length → (∀ (i : Nat) y, ys[i]? = some y → F i y H') → PenAt H' pen L → Chg pen H1 H' → Qd D H') : LcR (Itt K a) g tYes te vs σ H1 Qd := by
  intro D hD
  have hn := hP.ne hD
  have hap : a ≠ pen := pen_tup hP ea
  refine lc_any xs.length (fun i acc H' => acc.length = i ∧ (∀ (j : Nat) y, acc[j]? = some y → F j y H') ∧ PenAt H' pen L ∧ Chg pen H1 H') hD (fun H' _ s => ⟨rfl, by simp, hP.same s, .same s⟩)
    (fun i acc H' hi ⟨_, _, _, c⟩ => ⟨_, _, .of (c _ _ hap ea), List.getElem?_eq_getElem hi⟩) (fun acc H' ⟨_, _, _, c⟩ => ⟨_, .of (c _ _ hap ea), Nat.le_refl _⟩) ?_ ?_
  · rintro i x acc _ H' hi hla ⟨ha, hf, p2, c2⟩ hd2 ⟨rfl, hx⟩
    refine hs i x _ _ (hx _ (.of (c2 _ _ hap ea))) p2 c2 fun y H4 p4 c4 f4 => ?_
    have ed4 := c4 _ _ hn.1.symm hd2
    refine lc_step ed4 hla (by show _ < 16777216; omega) fun H5 e5 c5 => ?_
    have k5 : Tk H4 H5 := c5.tkl ed4
    have k4 : Tk H' H4 := p2.tk c4
    refine ⟨by rw [List.length_append, ha]; rfl, fun j z hz => ?_, p4.chg c5 hn.1 hn.2, (c2.trans c4).fresh hD c5⟩
    by_cases hj : j < acc.length
    · rw [List.getElem?_append_left hj] at hz
      exact hF _ _ _ _ (k4.trans k5) (hf j z hz)
    · have hj2 : j < (acc ++ [y]).length := (List.getElem?_eq_some_iff.mp hz).1
      rw [List.length_append, List.length_singleton] at hj2
      have : j = acc.length := by omega
      subst this
      rw [List.getElem?_append_right (Nat.le_refl _), Nat.sub_self] at hz
      cases hz
      rw [ha]
      exact hF _ _ _ _ k5 f4
  · rintro acc H' hd2 ⟨ha, hf, p2, c2⟩
    exact hd D acc H' hD hd2 ha hf p2 c2

local macro_rules | `(tactic| walk_at "at") => `(tactic| first
  | assumption
  | ((with_reducible refine Same.to (H := ?gh) ?gs ?gt); (case gs => assumption); walk_at "at")
  | ((with_reducible refine Chg.to_pen (H := ?gh) (pen := ?ga) (L := ?gl) (xs := ?gx) ?gs ?gp ?gt); (case gs => assumption); (case gp => walk_at "pen0"); (case gt => walk_at "at"))
  | ((with_reducible refine Chg.to (H := ?gh) (a := ?ga) ?gs ?gt ?gn); (case gs => assumption); (case gn => walk_at "ne"); (case gt => walk_at "at")))
local macro_rules | `(tactic| walk_at "free") => `(tactic| first
  | assumption
  | ((with_reducible refine Same.free (H' := ?gh) ?gs ?gt); (case gs => assumption); walk_at "free")
  | ((with_reducible refine Chg.free (H' := ?gh) (a := ?ga) ?gs ?gn ?gt); (case gs => assumption); (case gn => walk_at "ne"); walk_at "free"))
local macro_rules | `(tactic| walk_at "ne") => `(tactic| first
  | assumption
  | (refine Ne.symm ?gt; assumption)
  | ((refine ne_fr (H := ?gh) (o := ?go) ?g1 ?g2); (case g2 => assumption); (case g1 => walk_at "at"))
  | ((refine Ne.symm (ne_fr (H := ?gh) (o := ?go) ?g1 ?g2)); (case g2 => assumption); (case g1 => walk_at "at"))
  | ((refine ne_pen (H := ?gh) (L := ?gl) ?g1 ?g2); (case g2 => assumption); (case g1 => walk_at "pen0"))
  | ((refine ne_penL (H := ?gh) (pen := ?gl) ?g1 ?g2); (case g2 => assumption); (case g1 => walk_at "pen0"))
  | ((refine Ne.symm (ne_pen (H := ?gh) (L := ?gl) ?g1 ?g2)); (case g2 => assumption); (case g1 => walk_at "pen0"))
  | ((refine Ne.symm (ne_penL (H := ?gh) (pen := ?gl) ?g1 ?g2)); (case g2 => assumption); (case g1 => walk_at "pen0")))
local macro_rules | `(tactic| walk_at "pen0") => `(tactic| first
  | assumption
  | ((with_reducible refine PenAt.same (H := ?gh) ?gt ?gs); (case gs => assumption); walk_at "pen0"))
local macro_rules | `(tactic| walk_at "pen") => `(tactic| first
  | assumption
  | ((with_reducible refine PenAt.same (H := ?gh) ?gt ?gs); (case gs => assumption); walk_at "pen")
  | ((with_reducible refine PenAt.chg (H := ?gh) (d := ?gd) ?gt ?gs ?g1 ?g2); (case gs => assumption); (case g1 => walk_at "ne"); (case g2 => walk_at "ne"); walk_at "pen"))
local macro_rules | `(tactic| walk_at "tk") => `(tactic| first
  | assumption
  | exact Tk.refl _
  | ((with_reducible refine Tk.same (H1 := ?gh) ?gt ?gs); (case gs => assumption); walk_at "tk")
  | ((with_reducible refine Tk.lst (H1 := ?gh) (a := ?ga) (ys := ?gy) ?gt ?gs ?gl); (case gs => assumption); (case gl => walk_at "at"); walk_at "tk")
  | ((with_reducible refine Tk.dct (H1 := ?gh) (a := ?ga) (kvs := ?gy) ?gt ?gs ?gl); (case gs => assumption); (case gl => walk_at "at"); walk_at "tk")
  | ((with_reducible refine Tk.trans (H1 := ?gh) ?gt (PenAt.tk (pen := ?gp) (L := ?gq) ?gl ?gs)); (case gs => assumption); (case gl => walk_at "pen"); walk_at "tk")
  | ((with_reducible refine Tk.trans (H1 := ?gh) ?gt ?gs); (case gs => assumption); walk_at "tk"))
local macro_rules | `(tactic| walk_at "same") => `(tactic| first
  | assumption
  | exact Same.refl _
  | ((with_reducible refine Same.more (H1 := ?gh) ?gt ?gs); (case gs => assumption); walk_at "same")
  | ((with_reducible refine Same.more2 (H1 := ?gh) (d := ?gd) ?gt ?gs ?gf); (case gs => assumption); (case gf => walk_at "free"); walk_at "same"))
local macro_rules | `(tactic| walk_at "chg") => `(tactic| first
  | assumption
  | exact Chg.refl
  | ((with_reducible refine Chg.trans (H1 := ?gh) ?gt ?gs); (case gs => assumption); walk_at "chg")
  | ((with_reducible refine Chg.trans (H1 := ?gh) ?gt (Chg.same ?gs)); (case gs => assumption); walk_at "chg")
  | ((with_reducible refine Chg.fresh (H1 := ?gh) (d := ?gd) ?gt ?gf ?gs); (case gs => assumption); (case gf => walk_at "free"); walk_at "chg"))
local macro_rules | `(tactic| walk_at "tps") => `(tactic| first
  | assumption
  | exact Tps.nil
  | (with_reducible (refine Tps.cons ?g1 ?g2); (case g1 => walk_at "tp"); walk_at "tps")
  | ((refine Tps.to (H := ?gh) ?gt ?gk); (case gt => assumption); walk_at "tk"))
local macro_rules | `(tactic| walk_at "tp") => `(tactic| first
  | assumption
  | exact Tp.str _
  | exact Tp.int _
  | exact Tp.bl _
  | exact Tp.non
  | ((refine Tp.to (H := ?gh) ?gt ?gk); (case gt => assumption); walk_at "tk")
  | ((refine Tp.tup (xs := ?gx) ?g1 ?g2); (case g1 => walk_at "at"); walk_at "tps"))
local macro_rules | `(tactic| walk_at "g2") => `(tactic| first
  | walk_at "g1"
  | with_reducible refine New.mk fun p H n e s => ?_
  | with_reducible refine Put.mk fun H e c => ?_
  | ((with_reducible refine g_ixTa (xs := ?gx) (v := ?gv) ?gh ?ge ?gi ?gt); (case gh => walk_at "at"); (case ge => exact rfl); (case gi => decide))
  | ((with_reducible refine g_ixLa (xs := ?gx) (v := ?gv) ?gh ?ge ?gi ?gt); (case gh => walk_at "at"); (case ge => exact rfl); (case gi => decide))
  | ((with_reducible refine g_tyl (xs := ?gx) (SqL.of ?gh) ?gt); (case gh => walk_at "at"))
  | ((with_reducible refine g_T ?gh ?gt); (case gh => exact rfl))
  | ((with_reducible refine g_F ?gh ?gt); (case gh => exact rfl))
  | ((with_reducible refine g_lenL (xs := ?gx) (SqL.of ?gh) ?gt); (case gh => walk_at "at"))
  | ((with_reducible refine g_lenT (xs := ?gx) (SqT.of ?gh) ?gt); (case gh => walk_at "at"))
  | ((with_reducible refine g_tupleL (xs := ?gx) (SqL.of ?gh) ?gt); (case gh => walk_at "at"))
  | ((with_reducible refine g_tupleT (xs := ?gx) (SqT.of ?gh) ?gt); (case gh => walk_at "at"))
  | ((with_reducible refine g_listL (xs := ?gx) (SqL.of ?gh) ?gt); (case gh => walk_at "at"))
  | ((with_reducible refine g_listT (xs := ?gx) (SqT.of ?gh) ?gt); (case gh => walk_at "at"))
  | ((refine g_un2 (x := ?gx) (y := ?gy) ?gh ?gt); (case gh => walk_at "at"); (try dsimp only [List.set]))
  | ((refine g_un3 (x := ?gx) (y := ?gy) (z := ?gz) ?gh ?gt); (case gh => walk_at "at"); (try dsimp only [List.set]))
  | ((with_reducible refine g_inX (xs := ?gx) (r := true) ?gh ?gf ?ge ?gt); (case gh => walk_at "at"); (case gf => exact rfl); (case ge => exact rfl))
  | ((with_reducible refine g_inX (xs := ?gx) (r := false) ?gh ?gf ?ge ?gt); (case gh => walk_at "at"); (case gf => exact rfl); (case ge => exact rfl))
  | ((with_reducible refine g_notInX (xs := ?gx) (r := true) ?gh ?gf ?ge ?gt); (case gh => walk_at "at"); (case gf => exact rfl); (case ge => exact rfl))
  | ((with_reducible refine g_notInX (xs := ?gx) (r := false) ?gh ?gf ?ge ?gt); (case gh => walk_at "at"); (case gf => exact rfl); (case ge => exact rfl))
  | ((with_reducible refine g_inK (kvs := ?gk) (r := false) ?gh ?ge ?gt); (case gh => assumption); (case ge => exact rfl))
  | ((with_reducible refine g_inK (kvs := ?gk) (r := true) ?gh ?ge ?gt); (case gh => assumption); (case ge => exact rfl))
  | ((with_reducible refine g_dnew ?gt))
  | ((with_reducible refine g_isTa (xs := ?gx) ?gh ?gt); (case gh => walk_at "at"))
  | ((with_reducible refine g_isLa (xs := ?gx) ?gh ?gt); (case gh => walk_at "at")))
local macro_rules | `(tactic| walk_at "gg") => `(tactic| repeat walk_at "g2")
local macro_rules | `(tactic| walk_at "len") => `(tactic| (show _ ≤ 16777216; simp only [List.length_append, List.length_cons, List.length_nil, List.length_map, List.length_reverse]; omega))
local macro_rules | `(tactic| walk_at "g2") => `(tactic| first
  | ((with_reducible refine g_neNil (xs := ?gx) ?gh ?gi ?gt); (case gi => walk_at "at"); (case gh => walk_at "at"))
  | ((with_reducible refine g_eqNil (xs := ?gx) ?gh ?gi ?gt); (case gi => walk_at "at"); (case gh => walk_at "at"))
  | ((with_reducible refine g_inGT (xs := ?gx) (r := true) ?gh ?gf ?ge ?gt); (case gh => assumption); (case gf => exact rfl); (case ge => exact rfl))
  | ((with_reducible refine g_inGT (xs := ?gx) (r := false) ?gh ?gf ?ge ?gt); (case gh => assumption); (case gf => exact rfl); (case ge => exact rfl))
  | with_reducible refine g_neBI ?_ | with_reducible refine g_neBS ?_ | with_reducible refine g_eqBI ?_ | with_reducible refine g_eqBS ?_
  | with_reducible refine g_dictZ ?_
  | with_reducible refine g_zipM ?_
  | ((with_reducible refine g_dict (kvs := ?gx) ?gh ?gt); (case gh => walk_at "at"))
  | ((with_reducible refine g_addL (xs := ?gx) (ys := ?gy) ?gh ?gi ?gl ?gt); (case gh => walk_at "at"); (case gi => walk_at "at"); (case gl => walk_at "len")))
local macro_rules | `(tactic| walk_at "draw") => `(tactic| ((refine g_draw (L := ?gl) ?gp ?g0 ?g1 ?gq); (case gp => walk_at "pen"); (case g0 => decide); (case g1 => decide)))

/-! ### spines, worths -/
theorem given_pos {p : Part} (h : p.word = "give") : p.given ≠ [] := by
  obtain ⟨a, b, rfl⟩ := word_give h
  show a.given ++ [b] ≠ []
  simp
theorem given_big : ∀ (n : Nat) (p : Part), p.big ≤ n → p.given.length + p.head.big ≤ p.big := by
  intro n
  induction n with
  | zero => intro p h; have := p.big_pos; omega
  | succ n ih =>
    intro p h
    by_cases hw : p.word = "give"
    · obtain ⟨a, b, rfl⟩ := word_give hw
      have h1 : 1 + (a.big + b.big) ≤ n + 1 := h
      have h2 := ih a (by omega)
      show (a.given ++ [b]).length + a.head.big ≤ 1 + (a.big + b.big)
      rw [List.length_append, List.length_singleton]
      omega
    · rw [(head_not hw).1, (head_not hw).2]
      show 0 + _ ≤ _
      omega
def spSpine : Sp := fun vs H Q _ => ∃ (v : V) (p : Part), vs = [v] ∧ Tp H v p.data ∧ p.big ≤ 100000 ∧ ∀ (a l : Addr) (v' : V) (us : List V) (H' : Hp), H' a = some (.tup [v', .ref l]) → Tp H' v' p.head.data → H' l = some (.lst us) → Tps H' us (p.given.map Part.data) → Same H H' → Q (.ref a) H'
theorem pure_spine {K : PySem.W.Frag} {w : World} : PureOk 1 spSpine (t_spine K w) 2 := by
  refine ⟨fun vs H Q E ⟨_, _, e, _⟩ => by rw [e]; rfl, ?_⟩
  rintro vs H Q E ⟨v, p, rfl, t, hb, q⟩
  show t_spine K w _ [some v, none] H
  unfold t_spine
  walk_at "go"
  intro fl H1 nf ef s1
  walk_at "go"
  refine while_any (fun m σ H' => ∃ (v' : V) (c : Part) (us : List V) (gs : List Part), σ = [some v', some (.ref fl)] ∧ H' fl = some (.lst us) ∧ Tp H' v' c.data ∧ Tps H' us (gs.map Part.data) ∧ c.head = p.head ∧ p.given = c.given ++ gs.reverse ∧ gs.length + c.big ≤ p.big ∧ m = c.big ∧ Chg fl H1 H') p.big
    ⟨v, p, [], [], rfl, ef, t.mono (Same.tk s1), .nil, rfl, by simp, by show 0 + _ ≤ _; omega, rfl, .refl⟩ ?_
  rintro m σ H2 ⟨v', c, us, gs, rfl, hf, tc, tg, hh, hgv, hgb, rfl, c2⟩
  obtain ⟨a, xs, rfl, ea, tx⟩ := tc.part
  walk_at "go"
  refine g_ixT (.of ea) (atI_of (by decide) rfl) ?_
  walk_at "go"
  by_cases hw : c.word = "give"
  · refine g_T (decide_eq_true hw) ?_
    refine g_turn ?_
    obtain ⟨b, d, rfl⟩ := word_give hw
    have tx' : Tps H2 xs [b.data, d.data] := tx
    obtain ⟨x1, r, rfl, t1, h1⟩ := tx'.cons_inv
    obtain ⟨x2, r, rfl, t2, h1⟩ := h1.cons_inv
    rw [h1.nil_inv] at ea
    walk_at "go"
    refine g_tyl (.of hf) ?_
    walk_at "go"
    refine g_ixT (.of ea) (atI_of (by decide) rfl) ?_
    walk_at "go"
    have hul : us.length = gs.length := by rw [tg.length, List.length_map]
    refine g_append hf (by rw [hul]; show _ < 16777216; omega) fun H3 e3 c3 => ?_
    walk_at "go"
    have k3 : Tk H2 H3 := c3.tkl hf
    refine g_ixT (.of (k3 _ _ ea)) (atI_of (by decide) rfl) ?_
    walk_at "go"
    have hbig : (Part.two .give b d).big = 1 + (b.big + d.big) := rfl
    have hdp := d.big_pos
    refine ⟨b.big, by omega, x1, b, _, gs ++ [d], rfl, e3, t1.mono k3, ?_, hh, ?_, by rw [List.length_append, List.length_singleton]; omega, rfl, c2.trans c3⟩
    · rw [List.map_append]
      exact Tps.append (tg.mono k3) (.one (t2.mono k3))
    · rw [hgv, List.reverse_append]
      show (b.given ++ [d]) ++ _ = b.given ++ ([d] ++ _)
      rw [List.append_assoc]
  · refine g_F (decide_eq_false hw) ?_
    walk_at "go"
    refine g_revL (.of hf) ?_
    intro l3 H3 n3 e3 s3
    walk_at "go"
    intro a4 H4 n4 e4 s4
    obtain ⟨e5, e6⟩ := head_not hw
    have s2 : Same H H2 := Same.chg s1 nf c2
    refine q a4 l3 _ _ H4 e4 ?_ (s4 _ _ e3) ?_ (s2.trans (s3.trans s4))
    · rw [← hh, e5]
      exact tc.mono (Same.tk (s3.trans s4))
    · rw [hgv, e6, List.nil_append, List.map_reverse]
      exact (tg.mono (Same.tk (s3.trans s4))).reverse
theorem wants_at {P : Prog} {f : Str} (h : f ∈ P.names) : ∃ ts, ThingsAt P f ts ∧ ts.length = P.wantsOf f := by
  obtain ⟨j, fn, h1, h2, h3⟩ := P.at_name h
  exact ⟨fn.things, .inl ⟨j, fn, h1, h2, rfl⟩, h3.symm⟩
def spWorth : Sp := fun vs H Q _ => ∃ (v v' : V) (P : Prog) (p : Part), vs = [v', v] ∧ Tp H v' P.data ∧ P.fine ∧ Tp H v p.data ∧ p.wf P.names ∧ p.big ≤ 100000 ∧ ∀ (H' : Hp), Same H H' → Q (.bl (p.worth P)) H'
theorem pure_worth {K : PySem.W.Frag} {w : World} : PureOk 2 spWorth (t_is_worth K w spSpine spWants) 4 := by
  refine ⟨fun vs H Q E ⟨_, _, _, _, e, _⟩ => by rw [e]; rfl, ?_⟩
  rintro vs H Q E ⟨v, v', P, p, rfl, tP, hfine, t, hwf, hb, q⟩
  show t_is_worth K w _ _ _ [some v', some v, none, none] H
  unfold t_is_worth
  obtain ⟨a, xs, rfl, ea, tx⟩ := t.part
  walk_at "go"
  refine g_ixT (.of ea) (atI_of (by decide) rfl) ?_
  walk_at "go"
  intro p1 H1 n1 e1 s1
  refine g_inT (ss := [("number" : Str), "pair"]) (.of e1) ?_
  walk_at "go"
  by_cases hw : p.word ∈ [("number" : Str), "pair"]
  · refine g_T (decide_eq_true hw) ?_
    walk_at "go"
    have : p.worth P = true := by unfold Part.worth; rw [decide_eq_true hw]; rfl
    rw [← this]
    exact q H1 s1
  refine g_F (decide_eq_false hw) ?_
  walk_at "go"
  refine ⟨_, p, rfl, t.mono (Same.tk s1), hb, fun a2 l2 u2 us2 H2 ea2 tu2 el2 tus2 s2 => ?_⟩
  refine g_un2 ea2 ?_
  walk_at "go"
  obtain ⟨a3, x3, rfl, ea3, tx3⟩ := tu2.part
  refine g_ixT (.of ea3) (atI_of (by decide) rfl) ?_
  walk_at "go"
  have s02 : Same H H2 := s1.trans s2
  by_cases hf : p.head.word = "fun"
  · refine g_T (decide_eq_true hf) ?_
    walk_at "go"
    obtain ⟨f, hf'⟩ := word_fun hf
    refine g_lenL (.of el2) ?_
    walk_at "go"
    rw [hf'] at ea3 tx3
    have tx3' : Tps H2 x3 [.str f] := tx3
    obtain ⟨y, r, rfl, ty, hr⟩ := tx3'.cons_inv
    rw [hr.nil_inv, ty.str_inv] at ea3
    refine g_ixT (.of ea3) (atI_of (by decide) rfl) ?_
    walk_at "go"
    have hfm : f ∈ P.names := by
      have := Part.head_wf _ p (Nat.le_refl _) hwf
      rw [hf'] at this
      exact this
    obtain ⟨ts, hts, htl⟩ := wants_at hfm
    refine ⟨v', P, f, ts, rfl, tP.mono (Same.tk s02), hfine, hts, fun H3 s3 => ?_⟩
    walk_at "go"
    have e : decide ((us2.length : Int) < (ts.length : Int)) = p.worth P := by
      rw [worth_fn hf', tus2.length, List.length_map, htl]
      exact decide_eq_decide.mpr (by omega)
    rw [e]
    exact q H3 (s02.trans s3)
  · refine g_F (decide_eq_false hf) ?_
    have e : p.worth P = false := by rw [worth_no hf, decide_eq_false hw]
    have := q H2 s02
    rw [e] at this
    show Q (.bl (decide (p.head.word = "fun"))) H2
    rw [decide_eq_false hf]
    exact this

/-! ### closed parts put in -/
theorem Lk.up {K : PySem.W.Frag} {H : Hp} : ∀ {n m : Nat} {x y : V}, n ≤ m → Lk K H n x y → Lk K H m x y
  | 0, _, _, _, _, h => h.elim
  | n + 1, 0, _, _, hnm, _ => absurd hnm (by omega)
  | n + 1, m + 1, x, y, hnm, h => by
    have pu : ∀ {xs ys : List V}, Paired (Lk K H n) xs ys → Paired (Lk K H m) xs ys := by
      intro xs ys p
      induction p with
      | nil => exact .nil
      | cons a _ ih => exact .cons (Lk.up (by omega) a) ih
    rcases h with h | h | ⟨a, b, xs, ys, e1, e2, h1, h2, p⟩ | ⟨a, b, xs, ys, e1, e2, h1, h2, p⟩
    · exact .inl h
    · exact .inr (.inl h)
    · exact .inr (.inr (.inl ⟨a, b, xs, ys, e1, e2, h1, h2, pu p⟩))
    · exact .inr (.inr (.inr ⟨a, b, xs, ys, e1, e2, h1, h2, pu p⟩))
section
variable {K : PySem.W.Frag} {H H' : Hp}
/-- two tuples of alike things -/
theorem Lk.tup {n : Nat} {a b : Addr} {xs ys : List V} (ha : H a = some (.tup xs)) (hb : H b = some (.tup ys)) (p : Paired (Lk K H n) xs ys) : Lk K H (n + 1) (.ref a) (.ref b) := .inr (.inr (.inr ⟨a, b, xs, ys, rfl, rfl, .of ha, .of hb, p⟩))
theorem Lk.flat {n : Nat} {x : V} (h : flatB x = true) : Lk K H (n + 1) x x := .inl ⟨rfl, h⟩
theorem Lk.same {n : Nat} {a : Addr} : Lk K H (n + 1) (.ref a) (.ref a) := .inr (.inl ⟨a, rfl, rfl⟩)
mutual
theorem Tp.like : ∀ {d : PyData} {v v' : V} {n : Nat}, Tp H v d → Tp H v' d → PyData.depth d < n → Lk K H n v v'
  | .none, _, _, n, h, h', hn => by
    cases h; cases h'
    obtain ⟨m, rfl⟩ : ∃ m, n = m + 1 := ⟨n - 1, by omega⟩
    exact .flat rfl
  | .bool b, _, _, n, h, h', hn => by
    cases h; cases h'
    obtain ⟨m, rfl⟩ : ∃ m, n = m + 1 := ⟨n - 1, by omega⟩
    exact .flat rfl
  | .int i, _, _, n, h, h', hn => by
    cases h; cases h'
    obtain ⟨m, rfl⟩ : ∃ m, n = m + 1 := ⟨n - 1, by omega⟩
    exact .flat rfl
  | .str x, _, _, n, h, h', hn => by
    cases h; cases h'
    obtain ⟨m, rfl⟩ : ∃ m, n = m + 1 := ⟨n - 1, by omega⟩
    exact .flat rfl
  | .tuple ds, _, _, n, h, h', hn => by
    cases h with
    | tup e r =>
      cases h' with
      | tup e' r' =>
        obtain ⟨m, rfl⟩ : ∃ m, n = m + 1 := ⟨n - 1, by omega⟩
        rw [PyData.depth] at hn
        exact .tup e e' (Tps.like r r' (by omega))
  | .list ds, _, _, _, h, _, _ => by cases h
  | .dict ds, _, _, _, h, _, _ => by cases h
theorem Tps.like : ∀ {ds : List PyData} {vs vs' : List V} {n : Nat}, Tps H vs ds → Tps H vs' ds → PyData.depthAll ds < n → Paired (Lk K H n) vs vs'
  | [], _, _, _, h, h', _ => by cases h; cases h'; exact .nil
  | d :: ds, _, _, n, h, h', hn => by
    rw [PyData.depthAll] at hn
    cases h with
    | cons a b =>
      cases h' with
      | cons a' b' => exact .cons (Tp.like a a' (by omega)) (Tps.like b b' (by omega))
end
end
mutual
def Part.put (env : Str → Option Part) : Part → Part
  | .num n => .num n
  | .name x => match env x with
    | some q => .shut q
    | none => .name x
  | .fn f => .fn f
  | .one k a => .one k (a.put env)
  | .two k a b => .two k (a.put env) (b.put env)
  | .whn a b c => .whn (a.put env) (b.put env) (c.put env)
  | .letp r a => .letp (r.put env) (a.put env)
  | .shut a => .shut a
def Rows.put (env : Str → Option Part) : Rows → Rows
  | .nil => .nil
  | .cons x a r => .cons x (a.put env) (r.put env)
end
mutual
/-- v is the part with the values dv in the place of names; the same objects in both -/
def PutAt (H : Hp) (dv : Str → Option V) : Part → V → Prop
  | .num n, v => Tp H v (Part.num n).data
  | .name x, v => match dv x with
    | some u => ∃ a, v = .ref a ∧ H a = some (.tup [.str "shut", u])
    | none => Tp H v (Part.name x).data
  | .fn f, v => Tp H v (Part.fn f).data
  | .one k a, v => ∃ r x, v = .ref r ∧ H r = some (.tup [.str k.word, x]) ∧ PutAt H dv a x
  | .two k a b, v => ∃ r x y, v = .ref r ∧ H r = some (.tup [.str k.word, x, y]) ∧ PutAt H dv a x ∧ PutAt H dv b y
  | .whn a b c, v => ∃ r x y z, v = .ref r ∧ H r = some (.tup [.str "when", x, y, z]) ∧ PutAt H dv a x ∧ PutAt H dv b y ∧ PutAt H dv c z
  | .letp rs a, v => ∃ r b xs x, v = .ref r ∧ H r = some (.tup [.str "let", .ref b, x]) ∧ H b = some (.tup xs) ∧ PutRows H dv rs xs ∧ PutAt H dv a x
  | .shut a, v => Tp H v (Part.shut a).data
def PutRows (H : Hp) (dv : Str → Option V) : Rows → List V → Prop
  | .nil, vs => vs = []
  | .cons x a r, vs => ∃ c u us, vs = .ref c :: us ∧ H c = some (.tup [.str x, u]) ∧ PutAt H dv a u ∧ PutRows H dv r us
end
section
variable {H H' : Hp} {dv : Str → Option V}
mutual
theorem PutAt.mono (k : Tk H H') : ∀ {p : Part} {v : V}, PutAt H dv p v → PutAt H' dv p v
  | .num n, v, h => Tp.mono k h
  | .name x, v, h => by
    unfold PutAt at h ⊢
    split at h
    · obtain ⟨a, e, h⟩ := h
      exact ⟨a, e, k _ _ h⟩
    · exact Tp.mono k h
  | .fn f, v, h => Tp.mono k h
  | .one _ a, v, ⟨r, x, e, h, h1⟩ => ⟨r, x, e, k _ _ h, PutAt.mono k h1⟩
  | .two _ a b, v, ⟨r, x, y, e, h, h1, h2⟩ => ⟨r, x, y, e, k _ _ h, PutAt.mono k h1, PutAt.mono k h2⟩
  | .whn a b c, v, ⟨r, x, y, z, e, h, h1, h2, h3⟩ => ⟨r, x, y, z, e, k _ _ h, PutAt.mono k h1, PutAt.mono k h2, PutAt.mono k h3⟩
  | .letp rs a, v, ⟨r, b, xs, x, e, h, hb, h1, h2⟩ => ⟨r, b, xs, x, e, k _ _ h, k _ _ hb, PutRows.mono k h1, PutAt.mono k h2⟩
  | .shut a, v, h => Tp.mono k h
theorem PutRows.mono (k : Tk H H') : ∀ {r : Rows} {vs : List V}, PutRows H dv r vs → PutRows H' dv r vs
  | .nil, vs, h => h
  | .cons x a r, vs, ⟨c, u, us, e, h, h1, h2⟩ => ⟨c, u, us, e, k _ _ h, PutAt.mono k h1, PutRows.mono k h2⟩
end
/-- what dv tells is what env tells -/
def EnvAt (H : Hp) (dv : Str → Option V) (env : Str → Option Part) : Prop := ∀ x, (dv x = none ∧ env x = none) ∨ ∃ u q, dv x = some u ∧ env x = some q ∧ Tp H u q.data
mutual
theorem PutAt.tp {env : Str → Option Part} (he : EnvAt H dv env) : ∀ {p : Part} {v : V}, PutAt H dv p v → Tp H v (p.put env).data
  | .num n, v, h => h
  | .name x, v, h => by
    unfold PutAt at h
    unfold Part.put
    rcases he x with ⟨e1, e2⟩ | ⟨u, q, e1, e2, t⟩
    · rw [e1] at h
      rw [e2]
      exact h
    · rw [e1] at h
      rw [e2]
      obtain ⟨a, rfl, h⟩ := h
      exact .tup h (.cons (.str _) (.one t))
  | .fn f, v, h => h
  | .one _ a, v, ⟨r, x, e, h, h1⟩ => by
    subst e
    exact .tup h (.cons (.str _) (.one (PutAt.tp he h1)))
  | .two _ a b, v, ⟨r, x, y, e, h, h1, h2⟩ => by
    subst e
    exact .tup h (.cons (.str _) (.cons (PutAt.tp he h1) (.one (PutAt.tp he h2))))
  | .whn a b c, v, ⟨r, x, y, z, e, h, h1, h2, h3⟩ => by
    subst e
    exact .tup h (.cons (.str _) (.cons (PutAt.tp he h1) (.cons (PutAt.tp he h2) (.one (PutAt.tp he h3)))))
  | .letp rs a, v, ⟨r, b, xs, x, e, h, hb, h1, h2⟩ => by
    subst e
    exact .tup h (.cons (.str _) (.cons (.tup hb (PutRows.tp he h1)) (.one (PutAt.tp he h2))))
  | .shut a, v, h => h
theorem PutRows.tp {env : Str → Option Part} (he : EnvAt H dv env) : ∀ {r : Rows} {vs : List V}, PutRows H dv r vs → Tps H vs (r.put env).datas
  | .nil, vs, h => by
    have : vs = [] := h
    rw [this]
    exact .nil
  | .cons x a r, vs, ⟨c, u, us, e, h, h1, h2⟩ => by
    subst e
    exact .cons (.tup h (.cons (.str _) (.one (PutAt.tp he h1)))) (PutRows.tp he h2)
end
/-- values that == finds alike at once -/
def FlatDv (dv : Str → Option V) : Prop := ∀ x u, dv x = some u → ∃ a, u = .ref a
mutual
/-- how deep likeness goes -/
def Part.ld : Part → Nat
  | .num _ => 3
  | .name _ => 3
  | .fn _ => 3
  | .one _ a => 1 + max 1 a.ld
  | .two _ a b => 1 + max 1 (max a.ld b.ld)
  | .whn a b c => 1 + max 1 (max a.ld (max b.ld c.ld))
  | .letp r a => 1 + max (1 + r.ld) a.ld
  | .shut a => 2 + PyData.depth a.data
def Rows.ld : Rows → Nat
  | .nil => 1
  | .cons _ a r => max (1 + max 1 a.ld) r.ld
end
mutual
theorem PutAt.like {K : PySem.W.Frag} (hd : FlatDv dv) : ∀ {p : Part} {v v' : V}, PutAt H dv p v → PutAt H dv p v' → Lk K H p.ld v v'
  | .num n, v, v', h, h' => Tp.like h h' (by simp [Part.data, PyData.depth, PyData.depthAll, Part.ld])
  | .name x, v, v', h, h' => by
    unfold PutAt at h h'
    cases e : dv x with
    | none =>
      rw [e] at h h'
      exact Tp.like h h' (by simp [Part.data, PyData.depth, PyData.depthAll, Part.ld])
    | some u =>
      rw [e] at h h'
      obtain ⟨a, rfl, h⟩ := h
      obtain ⟨b, rfl, h'⟩ := h'
      obtain ⟨c, rfl⟩ := hd x u e
      exact .tup (n := 2) h h' (.cons (.flat rfl) (.cons .same .nil))
  | .fn f, v, v', h, h' => Tp.like h h' (by simp [Part.data, PyData.depth, PyData.depthAll, Part.ld])
  | .one k a, v, v', ⟨r, x, e, h, h1⟩, ⟨r', x', e', h', h1'⟩ => by
    subst e; subst e'
    have i1 := (PutAt.like (K := K) hd h1 h1').up (show a.ld ≤ max 1 a.ld from by omega)
    have i0 : Lk K H (max 1 a.ld) (.str k.word) (.str k.word) := Lk.up (n := 1) (by omega) (.flat rfl)
    have := Lk.tup h h' (.cons i0 (.cons i1 .nil))
    exact this.up (by show _ ≤ 1 + max 1 a.ld; omega)
  | .two k a b, v, v', ⟨r, x, y, e, h, h1, h2⟩, ⟨r', x', y', e', h', h1', h2'⟩ => by
    subst e; subst e'
    have i1 := (PutAt.like (K := K) hd h1 h1').up (show a.ld ≤ max 1 (max a.ld b.ld) from by omega)
    have i2 := (PutAt.like (K := K) hd h2 h2').up (show b.ld ≤ max 1 (max a.ld b.ld) from by omega)
    have i0 : Lk K H (max 1 (max a.ld b.ld)) (.str k.word) (.str k.word) := Lk.up (n := 1) (by omega) (.flat rfl)
    exact (Lk.tup h h' (.cons i0 (.cons i1 (.cons i2 .nil)))).up (by show _ ≤ 1 + max 1 (max a.ld b.ld); omega)
  | .whn a b c, v, v', ⟨r, x, y, z, e, h, h1, h2, h3⟩, ⟨r', x', y', z', e', h', h1', h2', h3'⟩ => by
    subst e; subst e'
    have i1 := (PutAt.like (K := K) hd h1 h1').up (show a.ld ≤ max 1 (max a.ld (max b.ld c.ld)) from by omega)
    have i2 := (PutAt.like (K := K) hd h2 h2').up (show b.ld ≤ max 1 (max a.ld (max b.ld c.ld)) from by omega)
    have i3 := (PutAt.like (K := K) hd h3 h3').up (show c.ld ≤ max 1 (max a.ld (max b.ld c.ld)) from by omega)
    have i0 : Lk K H (max 1 (max a.ld (max b.ld c.ld))) (.str "when") (.str "when") := Lk.up (n := 1) (by omega) (.flat rfl)
    exact (Lk.tup h h' (.cons i0 (.cons i1 (.cons i2 (.cons i3 .nil))))).up (by show _ ≤ 1 + max 1 (max a.ld (max b.ld c.ld)); omega)
  | .letp rs a, v, v', ⟨r, b, xs, x, e, h, hb, h1, h2⟩, ⟨r', b', xs', x', e', h', hb', h1', h2'⟩ => by
    subst e; subst e'
    have i2 := (PutAt.like (K := K) hd h2 h2').up (show a.ld ≤ max (1 + rs.ld) a.ld from by omega)
    have i1 := (Lk.tup hb hb' (PutRows.like (K := K) hd h1 h1')).up (show rs.ld + 1 ≤ max (1 + rs.ld) a.ld from by omega)
    have i0 : Lk K H (max (1 + rs.ld) a.ld) (.str "let") (.str "let") := Lk.up (n := 1) (by omega) (.flat rfl)
    exact (Lk.tup h h' (.cons i0 (.cons i1 (.cons i2 .nil)))).up (by show _ ≤ 1 + max (1 + rs.ld) a.ld; omega)
  | .shut a, v, v', h, h' => Tp.like h h' (by simp [Part.data, PyData.depth, PyData.depthAll, Part.ld]; omega)
theorem PutRows.like {K : PySem.W.Frag} (hd : FlatDv dv) : ∀ {r : Rows} {vs vs' : List V}, PutRows H dv r vs → PutRows H dv r vs' → Paired (Lk K H r.ld) vs vs'
  | .nil, vs, vs', h, h' => by
    have e : vs = [] := h
    have e' : vs' = [] := h'
    rw [e, e']
    exact .nil
  | .cons x a r, vs, vs', ⟨c, u, us, e, h, h1, h2⟩, ⟨c', u', us', e', h', h1', h2'⟩ => by
    subst e; subst e'
    have i1 := (PutAt.like (K := K) hd h1 h1').up (show a.ld ≤ max 1 a.ld from by omega)
    have i0 : Lk K H (max 1 a.ld) (.str x) (.str x) := Lk.up (n := 1) (by omega) (.flat rfl)
    have i := (Lk.tup h h' (.cons i0 (.cons i1 .nil))).up (show max 1 a.ld + 1 ≤ (Rows.cons x a r).ld from by show _ ≤ max (1 + max 1 a.ld) r.ld; omega)
    have rest := PutRows.like (K := K) hd h2 h2'
    have ru : ∀ {xs ys : List V}, Paired (Lk K H r.ld) xs ys → Paired (Lk K H (Rows.cons x a r).ld) xs ys := by
      intro xs ys p
      induction p with
      | nil => exact .nil
      | cons a _ ih => exact .cons (a.up (by show r.ld ≤ max _ r.ld; omega)) ih
    exact .cons i (ru rest)
end
end
mutual
theorem Part.put_deep (env : Str → Option Part) : ∀ p : Part, (p.put env).deep = p.deep ∧ (p.put env).size = p.size
  | .num n => ⟨rfl, rfl⟩
  | .name x => by unfold Part.put; cases env x <;> exact ⟨rfl, rfl⟩
  | .fn f => ⟨rfl, rfl⟩
  | .one k a => by have h := a.put_deep env; exact ⟨congrArg (1 + ·) h.1, congrArg (1 + ·) h.2⟩
  | .two k a b => by
    have h := a.put_deep env
    have h2 := b.put_deep env
    refine ⟨?_, ?_⟩
    · show 1 + max (a.put env).deep (b.put env).deep = 1 + max a.deep b.deep; rw [h.1, h2.1]
    · show 1 + ((a.put env).size + (b.put env).size) = 1 + (a.size + b.size); rw [h.2, h2.2]
  | .whn a b c => by
    have h := a.put_deep env
    have h2 := b.put_deep env
    have h3 := c.put_deep env
    refine ⟨?_, ?_⟩
    · show 1 + max (a.put env).deep (max (b.put env).deep (c.put env).deep) = 1 + max a.deep (max b.deep c.deep); rw [h.1, h2.1, h3.1]
    · show 1 + ((a.put env).size + ((b.put env).size + (c.put env).size)) = 1 + (a.size + (b.size + c.size)); rw [h.2, h2.2, h3.2]
  | .letp r a => by
    have h := r.put_deep env
    have h2 := a.put_deep env
    refine ⟨?_, ?_⟩
    · show 1 + max (r.put env).deep (a.put env).deep = 1 + max r.deep a.deep; rw [h.1, h2.1]
    · show 1 + ((r.put env).size + (a.put env).size) = 1 + (r.size + a.size); rw [h.2, h2.2]
  | .shut a => ⟨rfl, rfl⟩
theorem Rows.put_deep (env : Str → Option Part) : ∀ r : Rows, (r.put env).deep = r.deep ∧ (r.put env).size = r.size
  | .nil => ⟨rfl, rfl⟩
  | .cons x a r => by
    have h := a.put_deep env
    have h2 := r.put_deep env
    refine ⟨?_, ?_⟩
    · show max (a.put env).deep (r.put env).deep = max a.deep r.deep; rw [h.1, h2.1]
    · show (a.put env).size + (r.put env).size = a.size + r.size; rw [h.2, h2.2]
end

/-! ### putting in, walked -/
def dvOf (kvs : List (Key × V)) : Str → Option V := fun x => valV kvs (.inr x)
theorem g_inD {K : PySem.W.Frag} {w : World} {H : Hp} {Q : VK} {d : Addr} {kvs : List (Key × V)} {z : Str} (h : H d = some (.dK kvs)) (q : Q (.bl (dvOf kvs z).isSome) H) : rInG K w false (.str z) (.ref d) H Q :=
  .inr (.inr (.inl ⟨d, _, rfl, .inl ⟨kvs, .inr z, .of h, rfl, rfl⟩, by simpa [dvOf] using q⟩))
def PutAll (H : Hp) (dv : Str → Option V) : List Part → List V → Prop
  | [], vs => vs = []
  | p :: r, vs => ∃ u us, vs = u :: us ∧ PutAt H dv p u ∧ PutAll H dv r us
section
variable {H H' : Hp} {dv : Str → Option V}
theorem PutAll.mono (k : Tk H H') : ∀ {ps : List Part} {vs : List V}, PutAll H dv ps vs → PutAll H' dv ps vs
  | [], vs, h => h
  | p :: r, vs, ⟨u, us, e, h1, h2⟩ => ⟨u, us, e, h1.mono k, PutAll.mono k h2⟩
theorem PutAll.snoc : ∀ {ps : List Part} {vs : List V} {p : Part} {u : V}, PutAll H dv ps vs → PutAt H dv p u → PutAll H dv (ps ++ [p]) (vs ++ [u])
  | [], vs, p, u, h, h2 => by
    have e : vs = [] := h
    rw [e]
    exact ⟨u, [], rfl, h2, rfl⟩
  | q :: r, vs, p, u, ⟨x, us, e, h1, h3⟩, h2 => by
    subst e
    exact ⟨x, us ++ [u], rfl, h1, PutAll.snoc h3 h2⟩
theorem PutAll.len : ∀ {ps : List Part} {vs : List V}, PutAll H dv ps vs → vs.length = ps.length
  | [], vs, h => by
    have e : vs = [] := h
    rw [e]
    rfl
  | p :: r, vs, ⟨u, us, e, h1, h2⟩ => by
    subst e
    exact congrArg (· + 1) (PutAll.len h2)
theorem PutRows.snoc : ∀ {l : List (Str × Part)} {vs : List V} {x : Str} {a : Part} {c : Addr} {u : V}, PutRows H dv (Rows.of l) vs → H c = some (.tup [.str x, u]) → PutAt H dv a u → PutRows H dv (Rows.of (l ++ [(x, a)])) (vs ++ [.ref c])
  | [], vs, x, a, c, u, h, h1, h2 => by
    have e : vs = [] := h
    rw [e]
    exact ⟨c, u, [], rfl, h1, h2, rfl⟩
  | q :: l, vs, x, a, c, u, ⟨c', u', us, e, h3, h4, h5⟩, h1, h2 => by
    subst e
    exact ⟨c', u', us ++ [.ref c], rfl, h3, h4, PutRows.snoc h5 h1 h2⟩
theorem Rows.of_list : ∀ r : Rows, Rows.of r.list = r
  | .nil => rfl
  | .cons x a r => by
    show Rows.cons x a (Rows.of r.list) = _
    rw [Rows.of_list r]
/-- a part of the same kind, put in within -/
theorem PutAt.kind {p : Part} (hw : plainWord p.word) (hs : p.word ≠ "shut") {us : List V} {a : Addr} (h : PutAll H dv p.kids us) (ha : H a = some (.tup (.str p.word :: us))) : PutAt H dv p (.ref a) := by
  cases p with
  | one k b =>
    obtain ⟨u, r, rfl, h1, h2⟩ := h
    rw [show r = [] from h2] at ha
    exact ⟨a, u, rfl, ha, h1⟩
  | two k b c =>
    obtain ⟨u, r, rfl, h1, v, r2, rfl, h2, h3⟩ := h
    rw [show r2 = [] from h3] at ha
    exact ⟨a, u, v, rfl, ha, h1, h2⟩
  | whn b c d =>
    obtain ⟨u, r, rfl, h1, v, r2, rfl, h2, x, r3, rfl, h3, h4⟩ := h
    rw [show r3 = [] from h4] at ha
    exact ⟨a, u, v, x, rfl, ha, h1, h2, h3⟩
  | shut a => exact absurd rfl hs
  | num n => exact absurd (show ("number" : Str) ∈ [("number" : Str), "fun", "let", "name"] from by simp) hw
  | name n => exact absurd (show ("name" : Str) ∈ [("number" : Str), "fun", "let", "name"] from by simp) hw
  | fn n => exact absurd (show ("fun" : Str) ∈ [("number" : Str), "fun", "let", "name"] from by simp) hw
  | letp r a => exact absurd (show ("let" : Str) ∈ [("number" : Str), "fun", "let", "name"] from by simp) hw
end
theorem Rows.list_sz : ∀ (r : Rows) {q : Str × Part}, q ∈ r.list → q.2.size ≤ r.size ∧ q.2.deep ≤ r.deep
  | .cons x a r, q, h => by
    show _ ≤ a.size + r.size ∧ _ ≤ max a.deep r.deep
    rcases List.mem_cons.mp h with rfl | h
    · show a.size ≤ _ ∧ a.deep ≤ _
      omega
    · have := Rows.list_sz r h
      omega
theorem Rows.list_len (r : Rows) : r.list.length ≤ r.size := by
  have h1 := r.sz
  have h2 := sz_len r.parts
  rw [Rows.list_parts, List.length_map] at h2
  rw [Rows.list_parts] at h1
  omega
def spPut (m : Nat) : Sp := fun vs H Q _ => ∃ (v : V) (p : Part) (d : Addr) (kvs : List (Key × V)), vs = [v, .ref d] ∧ Tp H v p.data ∧ p.deep ≤ m ∧ p.size ≤ 60 ∧ H d = some (.dK kvs) ∧ ∀ (v' : V) (H' : Hp), PutAt H' (dvOf kvs) p v' → Same H H' → Q v' H'

/-! ### put_in -/
section
variable {H : Hp} {dv : Str → Option V}
theorem PutAll.of_get : ∀ {us : List V} {ps : List Part}, us.length = ps.length → (∀ (i : Nat) y, us[i]? = some y → ∃ p, ps[i]? = some p ∧ PutAt H dv p y) → PutAll H dv ps us
  | [], [], _, _ => rfl
  | u :: us, p :: ps, hl, h => by
    refine ⟨u, us, rfl, ?_, PutAll.of_get (Nat.succ.inj hl) fun i y hy => h (i + 1) y hy⟩
    obtain ⟨d', h1, h2⟩ := h 0 u rfl
    cases h1
    exact h2
theorem PutRows.of_get : ∀ {us : List V} {r : Rows}, us.length = r.list.length → (∀ (i : Nat) y, us[i]? = some y → ∃ q c u, r.list[i]? = some q ∧ y = .ref c ∧ H c = some (.tup [.str q.1, u]) ∧ PutAt H dv q.2 u) → PutRows H dv r us
  | [], .nil, _, _ => rfl
  | u :: us, .cons x a r, hl, h => by
    obtain ⟨q, c, u2, h1, h2, h3, h4⟩ := h 0 u rfl
    cases h1
    exact ⟨c, u2, us, by rw [h2], h3, h4, PutRows.of_get (Nat.succ.inj hl) fun i y hy => h (i + 1) y hy⟩
end
theorem Rows.list_at {H : Hp} {r : Rows} {rs : List V} {i : Nat} {x : V} (tr : Tps H rs r.datas) (hx : rs[i]? = some x) : ∃ q c u, r.list[i]? = some q ∧ x = .ref c ∧ H c = some (.tup [.str q.1, u]) ∧ Tp H u q.2.data := by
  obtain ⟨d, hd, td⟩ := tr.get hx
  rw [Rows.list_datas, List.getElem?_map] at hd
  obtain ⟨q, hq, rfl⟩ := Option.map_eq_some_iff.mp hd
  obtain ⟨c, u1, u, rfl, ec, t1, t2⟩ := td.two
  rw [t1.str_inv] at ec
  exact ⟨q, c, u, hq, rfl, ec, t2⟩
theorem dvOf_val {kvs : List (Key × V)} {x : Str} : valV kvs (.inr x) = dvOf kvs x := rfl
theorem parts_word1 : ∀ k : K1, (PARTSkvs.find? fun q => decide (q.1 = k.word)).isSome = true := by intro k; cases k <;> decide +kernel
theorem parts_word2 : ∀ k : K2, (PARTSkvs.find? fun q => decide (q.1 = k.word)).isSome = true := by intro k; cases k <;> decide +kernel
theorem parts_when : (PARTSkvs.find? fun q => decide (q.1 = ("when" : Str))).isSome = true := by decide +kernel
theorem parts_word {p : Part} (hw : plainWord p.word) (hs : p.word ≠ "shut") : (PARTSkvs.find? fun q => decide (q.1 = p.word)).isSome = true := by
  cases p with
  | one k a => exact parts_word1 k
  | two k a b => exact parts_word2 k
  | whn a b c => exact parts_when
  | shut a => exact absurd rfl hs
  | num n => exact absurd (show ("number" : Str) ∈ [("number" : Str), "fun", "let", "name"] from by simp) hw
  | name n => exact absurd (show ("name" : Str) ∈ [("number" : Str), "fun", "let", "name"] from by simp) hw
  | fn n => exact absurd (show ("fun" : Str) ∈ [("number" : Str), "fun", "let", "name"] from by simp) hw
  | letp r a => exact absurd (show ("let" : Str) ∈ [("number" : Str), "fun", "let", "name"] from by simp) hw
theorem cut_head {x : V} {xs : List V} : cutV (x :: xs) none (some 1) = [x] := by
  unfold cutV
  rw [HT.sIx_none, show (1 : Int) = ((1 : Nat) : Int) from rfl, HT.sIx_nat, List.length_cons, Nat.min_eq_left (by omega)]
  rfl
theorem not_all {n : Nat} (h : 2 ≤ n) : ¬ (HT.sIx n 0 none = 0 ∧ HT.sIx n n (some 1) = n) := by
  rw [HT.sIx_none, show (1 : Int) = ((1 : Nat) : Int) from rfl, HT.sIx_nat, Nat.min_eq_left (by omega)]
  omega
theorem kids_pos {p : Part} (hw : plainWord p.word) (hs : p.word ≠ "shut") : 1 ≤ p.kids.length := by
  cases p with
  | one k a => exact Nat.le_refl _
  | two k a b => show 1 ≤ 2; decide
  | whn a b c => show 1 ≤ 3; decide
  | shut a => exact absurd rfl hs
  | num n => exact absurd (show ("number" : Str) ∈ [("number" : Str), "fun", "let", "name"] from by simp) hw
  | name n => exact absurd (show ("name" : Str) ∈ [("number" : Str), "fun", "let", "name"] from by simp) hw
  | fn n => exact absurd (show ("fun" : Str) ∈ [("number" : Str), "fun", "let", "name"] from by simp) hw
  | letp r a => exact absurd (show ("let" : Str) ∈ [("number" : Str), "fun", "let", "name"] from by simp) hw
theorem pure_putin {K : PySem.W.Frag} {w : World} {m : Nat} (T : KTab K w (He.ga K "PARTS") PARTSkvs) : PureOk 2 (spPut (m + 1)) (t_put_in K w (spPut m)) 5 := by
  refine ⟨fun vs H Q E ⟨_, _, _, _, e, _⟩ => by rw [e]; rfl, ?_⟩
  rintro vs H Q E ⟨v, p, d, kvs, rfl, t, hm, hz, hd, q⟩
  show t_put_in K w _ _ [some v, some (.ref d), none, none, none] H
  unfold t_put_in
  have hdk := p.mxd_kids
  have hsk := p.sz_kids
  rcases word_cases p with ⟨n, rfl⟩ | ⟨x, rfl⟩ | ⟨f, rfl⟩ | ⟨r, b, rfl⟩ | ⟨b, rfl⟩ | ⟨hw, hs⟩
  · obtain ⟨a, u1, u2, rfl, ea, t1, t2⟩ := t.two
    rw [t1.str_inv] at ea
    walk_at "gg"
    exact q _ _ t (.refl _)
  · obtain ⟨a, u1, u2, rfl, ea, t1, t2⟩ := t.two
    rw [t1.str_inv, t2.str_inv] at ea
    walk_at "gg"
    refine g_inD hd ?_
    refine g_bl ?_
    cases e : dvOf kvs x with
    | none =>
      refine g_F rfl ?_
      walk_at "gg"
      refine q _ _ ?_ (.refl _)
      unfold PutAt
      rw [e]
      exact t
    | some u =>
      refine g_T rfl ?_
      walk_at "gg"
      refine g_ixD hd (k := .inr x) rfl e ?_
      walk_at "gg"
      refine q _ _ ?_ (by walk_at "same")
      unfold PutAt
      rw [e]
      exact ⟨_, rfl, by walk_at "at"⟩
  · obtain ⟨a, u1, u2, rfl, ea, t1, t2⟩ := t.two
    rw [t1.str_inv] at ea
    walk_at "gg"
    exact q _ _ t (.refl _)
  · obtain ⟨a, u1, u2, u3, rfl, ea, t1, t2, t3⟩ := t.three
    rw [t1.str_inv] at ea
    obtain ⟨ra, rs, rfl, er, tr⟩ := t2.tup_inv
    have hrsz := r.sz
    have hrmx := r.mxd
    have hrl : rs.length = r.list.length := by rw [tr.length, Rows.list_datas, List.length_map]
    have hll := r.list_len
    have hszk : (Part.letp r b).size = 1 + (r.size + b.size) := rfl
    have hdd : (Part.letp r b).deep = 1 + max r.deep b.deep := rfl
    walk_at "gg"
    refine g_seqT ?_
    walk_at "gg"
    refine lc_mapT er (by omega) (fun i y H' => ∃ q c u, r.list[i]? = some q ∧ y = .ref c ∧ H' c = some (.tup [.str q.1, u]) ∧ PutAt H' (dvOf kvs) q.2 u)
      (fun i y H H' k ⟨q, c, u, h1, h2, h3, h4⟩ => ⟨q, c, u, h1, h2, k _ _ h3, h4.mono k⟩) ?_ ?_
    · intro i x H' Nx hx s hN
      obtain ⟨q1, c, u, hq, rfl, ec, tu⟩ := Rows.list_at tr hx
      have hqs := Rows.list_sz r (List.mem_of_getElem? hq)
      walk_at "gg"
      refine ⟨rfl, ?_⟩
      walk_at "gg"
      refine ⟨_, q1.2, d, kvs, rfl, by walk_at "tp", by omega, by omega, by walk_at "at", fun v' H2 pv s2 => ?_⟩
      walk_at "gg"
      rename_i e3 s3
      exact hN _ _ (by walk_at "same") ⟨q1, _, _, hq, rfl, by walk_at "at", pv.mono (by walk_at "tk")⟩
    · intro D ys H2 nD eD hys hF s2
      walk_at "gg"
      refine ⟨_, b, d, kvs, rfl, by walk_at "tp", by omega, by omega, by walk_at "at", fun v' H3 pv s3 => ?_⟩
      walk_at "gg"
      refine q _ _ ?_ (by walk_at "same")
      exact ⟨_, _, ys, _, rfl, by walk_at "at", by walk_at "at", PutRows.mono (H := H2) (by walk_at "tk") (PutRows.of_get (hys.trans hrl) hF), pv.mono (by walk_at "tk")⟩
  · obtain ⟨a, u1, u2, rfl, ea, t1, t2⟩ := t.two
    rw [t1.str_inv] at ea
    walk_at "gg"
    exact q _ _ t (.refl _)
  · obtain ⟨a, xs, rfl, ea, tx⟩ := t.part
    have hk := kids_pos hw hs
    have hkl := sz_len p.kids
    rw [Part.args_subs hw, subs_kids hw hs] at tx
    have hxl : xs.length = p.kids.length := by rw [tx.length, List.length_map]
    walk_at "gg"
    refine g_F (decide_eq_false (not_name hw)) ?_
    walk_at "gg"
    refine g_F (decide_eq_false fun e => hw (by rw [e]; simp)) ?_
    walk_at "gg"
    refine g_inK T (r := true) (parts_word hw hs) ?_
    walk_at "gg"
    refine g_slT (.of ea) (not_all (by rw [List.length_cons]; omega)) ?_
    rw [cut_head]
    walk_at "gg"
    refine g_seqT ?_
    walk_at "gg"
    refine g_slT (.of (by walk_at "at")) (not_whole (by simp)) ?_
    rw [cut_tail]
    walk_at "gg"
    rename_i p1 H1 n1 e1 s1 p2 H2 n2 e2 s2
    refine lc_mapT e2 (by omega) (fun i y H' => ∃ q, p.kids[i]? = some q ∧ PutAt H' (dvOf kvs) q y) (fun i y H H' k ⟨q, h1, h2⟩ => ⟨q, h1, h2.mono k⟩) ?_ ?_
    · intro i x H' Nx hx s hN
      obtain ⟨d1, hd1, td⟩ := tx.get hx
      rw [List.getElem?_map] at hd1
      obtain ⟨q1, hq1, rfl⟩ := Option.map_eq_some_iff.mp hd1
      have hq1m := List.mem_of_getElem? hq1
      have := sz_mem hq1m
      have := mxd_mem hq1m
      walk_at "gg"
      refine ⟨rfl, ?_⟩
      walk_at "gg"
      refine ⟨_, q1, d, kvs, rfl, by walk_at "tp", by omega, by omega, by walk_at "at", fun v' H3 pv s3 => ?_⟩
      exact hN _ _ (by walk_at "same") ⟨q1, hq1, pv⟩
    · intro D ys H3 nD eD hys hF s3
      walk_at "gg"
      rename_i p4 H4 n4 e4 s4
      have hy1 : ys ≠ [] := by rintro rfl; simp at hys; omega
      refine g_addT (.of (by walk_at "at")) (.of (by walk_at "at")) (by simp only [List.length_cons, List.length_nil]; show _ ≤ 16777216; omega) (by simp) hy1 ?_
      walk_at "gg"
      refine q _ _ ?_ (by walk_at "same")
      exact PutAt.kind hw hs (PutAll.mono (H := H3) (by walk_at "tk") (PutAll.of_get (hys.trans hxl) hF)) (by walk_at "at")

/-! ### the law's own putting in -/

/-! ### steps, plainly -/
/-- what a table tells that gets these pairs, one behind the other -/
def envG (env : Str → Option Part) : List (Str × Part) → Str → Option Part
  | [] => env
  | q :: r => envG (fun x => if x = q.1 then some q.2 else env x) r
def envL (l : List (Str × Part)) : Str → Option Part := envG (fun _ => none) l
theorem envG_mem {P : Part → Prop} : ∀ (l : List (Str × Part)) (env : Str → Option Part), (∀ x q, env x = some q → P q) → (∀ q ∈ l, P q.2) → ∀ x q, envG env l x = some q → P q
  | [], env, h, _, x, q, e => h x q e
  | p :: r, env, h, hl, x, q, e => envG_mem r _ (fun y z e => by
      split at e
      · cases e; exact hl p (by simp)
      · exact h y z e) (fun z hz => hl z (List.mem_cons_of_mem _ hz)) x q e
theorem envL_mem {P : Part → Prop} {l : List (Str × Part)} (h : ∀ q ∈ l, P q.2) {x : Str} {q : Part} (e : envL l x = some q) : P q := envG_mem l _ (fun _ _ e => by cases e) h x q e
theorem envG_some : ∀ (l : List (Str × Part)) (env : Str → Option Part) (x : Str), (x ∈ l.map (·.1) ∨ ∃ q, env x = some q) → ∃ q, envG env l x = some q
  | [], env, x, h => by
    rcases h with h | h
    · cases h
    · exact h
  | p :: r, env, x, h => by
    refine envG_some r _ x ?_
    by_cases e : x = p.1
    · exact .inr ⟨p.2, by simp [e]⟩
    · rcases h with h | ⟨q, h⟩
      · rw [List.map_cons, List.mem_cons] at h
        rcases h with h | h
        · exact absurd h e
        · exact .inl h
      · exact .inr ⟨q, by simp [e, h]⟩
inductive Out
  | fault (w : Str) | went (w : Str) (q : Part)
def Out.data : Out → PyData
  | .fault w => .tuple [.str "fault", .str w]
  | .went w q => .tuple [.str w, q.data]
def Out.map (g : Part → Part) : Out → Out
  | .fault w => .fault w
  | .went w q => .went w (g q)
def Prog.bodyOf (P : Prog) (f : Str) : Part := match P.fs.find? (fun g => decide (g.name = f)) with
  | some g => g.body
  | none => P.asked
def Prog.thingsOf (P : Prog) (f : Str) : List Str := match P.fs.find? (fun g => decide (g.name = f)) with
  | some g => g.things
  | none => []
theorem wants_len (P : Prog) (f : Str) : P.wantsOf f = (P.thingsOf f).length := by
  unfold Prog.wantsOf Prog.thingsOf
  cases P.fs.find? (fun g => decide (g.name = f)) <;> rfl
theorem find_at {P : Prog} (hf : P.fine) {j : Nat} {fn : Fn1} (h : P.fs[j]? = some fn) : P.fs.find? (fun g => decide (g.name = fn.name)) = some fn := by
  have hm := List.mem_of_getElem? h
  cases e : P.fs.find? (fun g => decide (g.name = fn.name)) with
  | none =>
    have := List.find?_eq_none.mp e fn hm
    simp at this
  | some g =>
    have h2 := List.find?_some e
    have h2 := of_decide_eq_true h2
    obtain ⟨i, hi⟩ := List.mem_iff_getElem?.mp (List.mem_of_find?_eq_some e)
    have n1 : P.names[i]? = some fn.name := by show (P.fs.map _)[i]? = _; rw [List.getElem?_map, hi]; exact congrArg some h2
    have n2 : P.names[j]? = some fn.name := by show (P.fs.map _)[j]? = _; rw [List.getElem?_map, h]; rfl
    obtain ⟨k1, k2⟩ := List.getElem?_eq_some_iff.mp n1
    obtain ⟨k3, k4⟩ := List.getElem?_eq_some_iff.mp n2
    rcases Nat.lt_trichotomy i j with hlt | he | hgt
    · exact absurd (k2.trans k4.symm) ((List.pairwise_iff_getElem.mp hf.nd) i j k1 k3 hlt)
    · subst he; rw [h] at hi; cases hi; rfl
    · exact absurd (k4.trans k2.symm) ((List.pairwise_iff_getElem.mp hf.nd) j i k3 k1 hgt)
theorem Prog.fn_of {P : Prog} (hf : P.fine) {f : Str} (h : f ∈ P.names) : ∃ (j : Nat) (fn : Fn1), P.fs[j]? = some fn ∧ fn.name = f ∧ P.names[j]? = some f ∧ P.bodyOf f = fn.body ∧ P.thingsOf f = fn.things ∧ fn.fine P.names := by
  obtain ⟨j, fn, h1, h2, _⟩ := P.at_name h
  have e := find_at hf h1
  subst h2
  refine ⟨j, fn, h1, rfl, ?_, ?_, ?_, hf.fs fn (List.mem_of_getElem? h1)⟩
  · show (P.fs.map _)[j]? = _; rw [List.getElem?_map, h1]; rfl
  · unfold Prog.bodyOf; rw [e]
  · unfold Prog.thingsOf; rw [e]
def K2.op : K2 → Bool
  | .give => false
  | .pair => false
  | _ => true
def reck : K2 → Int → Int → Int
  | .plus, m, n => m + n
  | .less, m, n => m - n
  | .times, m, n => m * n
  | _, m, n => if m < n then 1 else 0
def callM (P : Prog) (p : Part) : Out := match p.head with
  | .fn f => .went "call" ((P.bodyOf f).put (envL ((P.thingsOf f).zip p.given)))
  | _ => .fault "function"
def rowsEnv (r : Rows) : Str → Option Part := envL (r.list.map fun q => (q.1, .letp r q.2))
def opM (k : K2) (a b : Part) : Out := match a, b with
  | .num m, .num n => if (reck k m n).natAbs < 10 ^ 60 then .went "number" (.num (reck k m n)) else .fault "great"
  | _, _ => .fault "number"
def whenM (a b c : Part) : Out := match a with
  | .num n => .went "turn" (if n = 0 then c else b)
  | _ => .fault "number"
def sideM (k : K1) (a : Part) : Out := match a with
  | .two .pair x y => .went "side" (match k with | .left => x | .right => y)
  | _ => .fault "pair"
def ownM (P : Prog) : Part → Out
  | .letp r a => .went "let" (a.put (rowsEnv r))
  | .shut a => .went "open" a
  | .whn a b c => whenM a b c
  | .one k a => sideM k a
  | .two .give a b => callM P (.two .give a b)
  | .two .pair a b => .fault "pair"
  | .two k a b => opM k a b
  | .fn f => callM P (.fn f)
  | p => .fault "pair"
/-- where in its tuple the part stands that is to be stepped first -/
def strictM (P : Prog) : Part → Nat
  | .one _ a => if a.worth P then 0 else 1
  | .whn a _ _ => if a.worth P then 0 else 1
  | .two .pair _ _ => 0
  | .two .give a _ => if a.worth P then 0 else 1
  | .two _ a b => if a.worth P then (if a.word = "number" then (if b.worth P then 0 else 2) else 0) else 1
  | _ => 0
def stepM (P : Prog) : Part → Out
  | .one k a => if strictM P (.one k a) = 0 then ownM P (.one k a) else (stepM P a).map (.one k)
  | .whn a b c => if strictM P (.whn a b c) = 0 then ownM P (.whn a b c) else (stepM P a).map (.whn · b c)
  | .two k a b => if strictM P (.two k a b) = 0 then ownM P (.two k a b) else if strictM P (.two k a b) = 1 then (stepM P a).map (.two k · b) else (stepM P b).map (.two k a)
  | p => ownM P p
mutual
/-- a part that may be gone on from: names in scope, small numbers, lets as in bodies -/
def Part.sd (fs : List Str) : List Str → Part → Prop
  | _, .num n => n.natAbs < 10 ^ 60
  | sc, .name x => x ∈ sc
  | _, .fn f => f ∈ fs
  | sc, .one _ a => a.sd fs sc
  | sc, .two _ a b => a.sd fs sc ∧ b.sd fs sc
  | sc, .whn a b c => a.sd fs sc ∧ b.sd fs sc ∧ c.sd fs sc
  | sc, .letp r a => r.names ≠ [] ∧ 1 + max r.deep a.deep ≤ 12 ∧ (r.size ≤ 60 ∧ a.size ≤ 60) ∧ r.sd fs (sc ++ r.names) ∧ a.sd fs (sc ++ r.names)
  | _, .shut a => a.sd fs []
def Rows.sd (fs : List Str) : List Str → Rows → Prop
  | _, .nil => True
  | sc, .cons _ a r => a.sd fs sc ∧ r.sd fs sc
end
mutual
theorem Part.ok_sd {fs : List Str} : ∀ {p : Part} {sc : List Str}, p.ok fs sc → p.deep ≤ 12 → p.size ≤ 60 → p.sd fs sc
  | .num n, sc, h, _, _ => h
  | .name x, sc, h, _, _ => h.1
  | .fn f, sc, h, _, _ => h.1
  | .one k a, sc, h, hd, hz => by
    have e1 : (Part.one k a).deep = 1 + a.deep := rfl
    have e2 : (Part.one k a).size = 1 + a.size := rfl
    exact Part.ok_sd (p := a) h (by omega) (by omega)
  | .two k a b, sc, h, hd, hz => by
    have e1 : (Part.two k a b).deep = 1 + max a.deep b.deep := rfl
    have e2 : (Part.two k a b).size = 1 + (a.size + b.size) := rfl
    exact ⟨Part.ok_sd (p := a) h.1 (by omega) (by omega), Part.ok_sd (p := b) h.2 (by omega) (by omega)⟩
  | .whn a b c, sc, h, hd, hz => by
    have e1 : (Part.whn a b c).deep = 1 + max a.deep (max b.deep c.deep) := rfl
    have e2 : (Part.whn a b c).size = 1 + (a.size + (b.size + c.size)) := rfl
    exact ⟨Part.ok_sd (p := a) h.1 (by omega) (by omega), Part.ok_sd (p := b) h.2.1 (by omega) (by omega), Part.ok_sd (p := c) h.2.2 (by omega) (by omega)⟩
  | .letp r a, sc, h, hd, hz => by
    have e1 : (Part.letp r a).deep = 1 + max r.deep a.deep := rfl
    have e2 : (Part.letp r a).size = 1 + (r.size + a.size) := rfl
    exact ⟨h.2.1, by omega, ⟨by omega, by omega⟩, Rows.ok_sd (r := r) h.2.2.2.1 (by omega) (by omega), Part.ok_sd (p := a) h.2.2.2.2 (by omega) (by omega)⟩
  | .shut a, sc, h, _, _ => h.elim
theorem Rows.ok_sd {fs : List Str} : ∀ {r : Rows} {sc : List Str}, r.ok fs sc → r.deep ≤ 12 → r.size ≤ 60 → r.sd fs sc
  | .nil, sc, h, _, _ => trivial
  | .cons x a r, sc, h, hd, hz => by
    have e1 : (Rows.cons x a r).deep = max a.deep r.deep := rfl
    have e2 : (Rows.cons x a r).size = a.size + r.size := rfl
    exact ⟨Part.ok_sd (p := a) h.1 (by omega) (by omega), Rows.ok_sd (r := r) h.2 (by omega) (by omega)⟩
end
theorem Part.fine.sd {fs sc : List Str} {p : Part} (h : p.fine fs sc) : p.sd fs sc := Part.ok_sd h.ok h.deep h.size
mutual
/-- a measure of its depth, shut ones gone into -/
def Part.wt : Part → Nat
  | .num _ => 3
  | .name _ => 3
  | .fn _ => 3
  | .one _ a => 3 + a.wt
  | .two _ a b => 3 + max a.wt b.wt
  | .whn a b c => 3 + max a.wt (max b.wt c.wt)
  | .letp r a => 3 + max r.wt a.wt
  | .shut a => 1 + a.wt
def Rows.wt : Rows → Nat
  | .nil => 0
  | .cons _ a r => max a.wt r.wt
end
mutual
theorem Part.wt_deep : ∀ p : Part, 3 * p.deep ≤ p.wt
  | .num _ => Nat.le_refl _
  | .name _ => Nat.le_refl _
  | .fn _ => Nat.le_refl _
  | .one k a => by have := a.wt_deep; show 3 * (1 + a.deep) ≤ 3 + a.wt; omega
  | .two k a b => by have := a.wt_deep; have := b.wt_deep; show 3 * (1 + max a.deep b.deep) ≤ 3 + max a.wt b.wt; omega
  | .whn a b c => by have := a.wt_deep; have := b.wt_deep; have := c.wt_deep; show 3 * (1 + max a.deep (max b.deep c.deep)) ≤ 3 + max a.wt (max b.wt c.wt); omega
  | .letp r a => by have := a.wt_deep; have := r.wt_deep; show 3 * (1 + max r.deep a.deep) ≤ 3 + max r.wt a.wt; omega
  | .shut a => by have := a.wt_deep; have := a.mxd_kids; show 3 * 1 ≤ 1 + a.wt; omega
theorem Rows.wt_deep : ∀ r : Rows, 3 * r.deep ≤ r.wt
  | .nil => Nat.le_refl _
  | .cons x a r => by have := a.wt_deep; have := r.wt_deep; show 3 * max a.deep r.deep ≤ max a.wt r.wt; omega
end
mutual
theorem Part.wt_ok {fs : List Str} : ∀ {p : Part} {sc : List Str}, p.ok fs sc → p.wt = 3 * p.deep
  | .num _, _, _ => rfl
  | .name _, _, _ => rfl
  | .fn _, _, _ => rfl
  | .one k a, _, h => by have := Part.wt_ok (p := a) h; show 3 + a.wt = 3 * (1 + a.deep); omega
  | .two k a b, _, h => by have := Part.wt_ok (p := a) h.1; have := Part.wt_ok (p := b) h.2; show 3 + max a.wt b.wt = 3 * (1 + max a.deep b.deep); omega
  | .whn a b c, _, h => by
    have := Part.wt_ok (p := a) h.1
    have := Part.wt_ok (p := b) h.2.1
    have := Part.wt_ok (p := c) h.2.2
    show 3 + max a.wt (max b.wt c.wt) = 3 * (1 + max a.deep (max b.deep c.deep)); omega
  | .letp r a, _, h => by have := Part.wt_ok (p := a) h.2.2.2.2; have := Rows.wt_ok (r := r) h.2.2.2.1; show 3 + max r.wt a.wt = 3 * (1 + max r.deep a.deep); omega
  | .shut a, _, h => h.elim
theorem Rows.wt_ok {fs : List Str} : ∀ {r : Rows} {sc : List Str}, r.ok fs sc → r.wt = 3 * r.deep
  | .nil, _, _ => rfl
  | .cons x a r, _, h => by have := Part.wt_ok (p := a) h.1; have := Rows.wt_ok (r := r) h.2; show max a.wt r.wt = 3 * max a.deep r.deep; omega
end
mutual
theorem Part.depth_wt : ∀ p : Part, PyData.depth p.data ≤ p.wt
  | .num _ => by simp [Part.data, PyData.depth, PyData.depthAll, Part.wt]
  | .name _ => by simp [Part.data, PyData.depth, PyData.depthAll, Part.wt]
  | .fn _ => by simp [Part.data, PyData.depth, PyData.depthAll, Part.wt]
  | .one k a => by have := a.depth_wt; simp only [Part.data, PyData.depth, PyData.depthAll, Part.wt]; omega
  | .two k a b => by have := a.depth_wt; have := b.depth_wt; simp only [Part.data, PyData.depth, PyData.depthAll, Part.wt]; omega
  | .whn a b c => by have := a.depth_wt; have := b.depth_wt; have := c.depth_wt; simp only [Part.data, PyData.depth, PyData.depthAll, Part.wt]; omega
  | .letp r a => by have := r.depth_wt; have := a.depth_wt; simp only [Part.data, PyData.depth, PyData.depthAll, Part.wt]; omega
  | .shut a => by have := a.depth_wt; simp only [Part.data, PyData.depth, PyData.depthAll, Part.wt]; omega
theorem Rows.depth_wt : ∀ r : Rows, PyData.depthAll r.datas ≤ r.wt + 1
  | .nil => by simp [Rows.datas, PyData.depthAll]
  | .cons x a r => by have := a.depth_wt; have := r.depth_wt; simp only [Rows.datas, PyData.depth, PyData.depthAll, Rows.wt]; omega
end
section
variable {env : Str → Option Part} {M : Nat}
mutual
theorem Part.put_wt (he : ∀ x q, env x = some q → q.wt ≤ M) : ∀ p : Part, (p.put env).wt ≤ max p.wt (3 * p.deep + M)
  | .num _ => by show 3 ≤ max 3 (3 * 1 + M); omega
  | .name x => by
    unfold Part.put
    cases e : env x with
    | none => show 3 ≤ max 3 (3 * 1 + M); omega
    | some q => have := he x q e; show 1 + q.wt ≤ max 3 (3 * 1 + M); omega
  | .fn _ => by show 3 ≤ max 3 (3 * 1 + M); omega
  | .one k a => by have := a.put_wt he; show 3 + (a.put env).wt ≤ max (3 + a.wt) (3 * (1 + a.deep) + M); omega
  | .two k a b => by have := a.put_wt he; have := b.put_wt he; show 3 + max (a.put env).wt (b.put env).wt ≤ max (3 + max a.wt b.wt) (3 * (1 + max a.deep b.deep) + M); omega
  | .whn a b c => by
    have := a.put_wt he
    have := b.put_wt he
    have := c.put_wt he
    show 3 + max (a.put env).wt (max (b.put env).wt (c.put env).wt) ≤ max (3 + max a.wt (max b.wt c.wt)) (3 * (1 + max a.deep (max b.deep c.deep)) + M); omega
  | .letp r a => by have := r.put_wt he; have := a.put_wt he; show 3 + max (r.put env).wt (a.put env).wt ≤ max (3 + max r.wt a.wt) (3 * (1 + max r.deep a.deep) + M); omega
  | .shut a => by show 1 + a.wt ≤ max (1 + a.wt) (3 * 1 + M); omega
theorem Rows.put_wt (he : ∀ x q, env x = some q → q.wt ≤ M) : ∀ r : Rows, (r.put env).wt ≤ max r.wt (3 * r.deep + M)
  | .nil => by show 0 ≤ _; omega
  | .cons x a r => by have := a.put_wt he; have := r.put_wt he; show max (a.put env).wt (r.put env).wt ≤ max (max a.wt r.wt) (3 * max a.deep r.deep + M); omega
end
theorem Rows.put_names : ∀ r : Rows, (r.put env).names = r.names
  | .nil => rfl
  | .cons x a r => by show x :: (r.put env).names = x :: r.names; rw [r.put_names]
mutual
theorem Part.put_sd {fs : List Str} (he : ∀ x q, env x = some q → q.sd fs []) : ∀ {p : Part} {sc sc2 : List Str}, (∀ x ∈ sc, x ∈ sc2 ∨ ∃ q, env x = some q) → p.sd fs sc → (p.put env).sd fs sc2
  | .num _, _, _, _, h => h
  | .name x, sc, sc2, hs, h => by
    unfold Part.put
    cases e : env x with
    | none => exact (hs x h).resolve_right fun ⟨q, e2⟩ => by rw [e] at e2; cases e2
    | some q => exact he x q e
  | .fn _, _, _, _, h => h
  | .one k a, _, _, hs, h => Part.put_sd he (p := a) hs h
  | .two k a b, _, _, hs, h => ⟨Part.put_sd he (p := a) hs h.1, Part.put_sd he (p := b) hs h.2⟩
  | .whn a b c, _, _, hs, h => ⟨Part.put_sd he (p := a) hs h.1, Part.put_sd he (p := b) hs h.2.1, Part.put_sd he (p := c) hs h.2.2⟩
  | .letp r a, sc, sc2, hs, h => by
    have hs' : ∀ x ∈ sc ++ r.names, x ∈ sc2 ++ r.names ∨ ∃ q, env x = some q := fun x hx => by
      rcases List.mem_append.mp hx with hx | hx
      · exact (hs x hx).imp (fun z => List.mem_append.mpr (.inl z)) id
      · exact .inl (List.mem_append.mpr (.inr hx))
    have d1 := r.put_deep env
    have d2 := a.put_deep env
    refine ⟨?_, ?_, ?_, ?_, ?_⟩
    · rw [Rows.put_names]; exact h.1
    · rw [d1.1, d2.1]; exact h.2.1
    · rw [d1.2, d2.2]; exact h.2.2.1
    · rw [Rows.put_names]; exact Rows.put_sd he (r := r) hs' h.2.2.2.1
    · rw [Rows.put_names]; exact Part.put_sd he (p := a) hs' h.2.2.2.2
  | .shut a, _, _, _, h => h
theorem Rows.put_sd {fs : List Str} (he : ∀ x q, env x = some q → q.sd fs []) : ∀ {r : Rows} {sc sc2 : List Str}, (∀ x ∈ sc, x ∈ sc2 ∨ ∃ q, env x = some q) → r.sd fs sc → (r.put env).sd fs sc2
  | .nil, _, _, _, _ => trivial
  | .cons x a r, _, _, hs, h => ⟨Part.put_sd he (p := a) hs h.1, Rows.put_sd he (r := r) hs h.2⟩
end
end
theorem head_sd {fs : List Str} : ∀ (n : Nat) {p : Part}, p.big ≤ n → p.sd fs [] → p.head.sd fs [] ∧ (∀ q ∈ p.given, q.sd fs [] ∧ q.wt + 3 ≤ p.wt) ∧ p.given.length < p.deep + 1
  | 0, p, h, _ => by have := p.big_pos; omega
  | n + 1, p, h, hs => by
    by_cases hw : p.word = "give"
    · obtain ⟨a, b, rfl⟩ := word_give hw
      have h1 : 1 + (a.big + b.big) ≤ n + 1 := h
      obtain ⟨i1, i2, i3⟩ := head_sd n (p := a) (by omega) hs.1
      refine ⟨i1, fun q hq => ?_, ?_⟩
      · rcases List.mem_append.mp (show q ∈ a.given ++ [b] from hq) with hq | hq
        · have := i2 q hq
          exact ⟨this.1, by show q.wt + 3 ≤ 3 + max a.wt b.wt; omega⟩
        · rw [List.mem_singleton] at hq
          subst hq
          exact ⟨hs.2, by show q.wt + 3 ≤ 3 + max a.wt q.wt; omega⟩
      · show (a.given ++ [b]).length < 1 + max a.deep b.deep + 1
        rw [List.length_append, List.length_singleton]
        omega
    · have := head_not hw
      rw [this.1, this.2]
      exact ⟨hs, fun q hq => absurd hq (by simp), Nat.succ_pos _⟩
theorem Part.sd.head_sd {fs : List Str} {p : Part} (h : p.sd fs []) : p.head.sd fs [] ∧ (∀ q ∈ p.given, q.sd fs [] ∧ q.wt + 3 ≤ p.wt) ∧ p.given.length < p.deep + 1 := Lz.head_sd p.big (Nat.le_refl _) h
theorem Rows.list_sd {fs sc : List Str} : ∀ {r : Rows}, r.sd fs sc → ∀ q ∈ r.list, q.2.sd fs sc ∧ q.2.wt ≤ r.wt ∧ q.2.deep ≤ r.deep ∧ q.2.size ≤ r.size
  | .nil, _, q, hq => by cases hq
  | .cons x a r, h, q, hq => by
    have e1 : (Rows.cons x a r).wt = max a.wt r.wt := rfl
    have e2 : (Rows.cons x a r).deep = max a.deep r.deep := rfl
    have e3 : (Rows.cons x a r).size = a.size + r.size := rfl
    rcases List.mem_cons.mp hq with rfl | hq
    · exact ⟨h.1, by show a.wt ≤ _; omega, by show a.deep ≤ _; omega, by show a.size ≤ _; omega⟩
    · obtain ⟨h1, h2, h3, h4⟩ := Rows.list_sd (r := r) h.2 q hq
      exact ⟨h1, by omega, by omega, by omega⟩
theorem letp_sd {fs : List Str} {r : Rows} {a : Part} (h : (Part.letp r a).sd fs []) {q : Str × Part} (hq : q ∈ r.list) : (Part.letp r q.2).sd fs [] ∧ (Part.letp r q.2).wt ≤ (Part.letp r a).wt := by
  obtain ⟨h0, h1, h2, h3, h4⟩ := h
  obtain ⟨i1, i2, i3, i4⟩ := Rows.list_sd h3 q hq
  exact ⟨⟨h0, by omega, ⟨h2.1, by omega⟩, h3, i1⟩, by show 3 + max r.wt q.2.wt ≤ 3 + max r.wt a.wt; omega⟩
theorem rowsEnv_ok {fs : List Str} {r : Rows} {a : Part} (h : (Part.letp r a).sd fs []) : (∀ x q, rowsEnv r x = some q → q.sd fs [] ∧ q.wt ≤ (Part.letp r a).wt) ∧ ∀ x ∈ r.names, ∃ q, rowsEnv r x = some q := by
  refine ⟨fun x q e => ?_, fun x hx => ?_⟩
  · refine envL_mem (P := fun q => q.sd fs [] ∧ q.wt ≤ (Part.letp r a).wt) (fun z hz => ?_) e
    obtain ⟨y, hy, rfl⟩ := List.mem_map.mp hz
    exact letp_sd h hy
  · refine envG_some _ _ x (.inl ?_)
    rw [List.map_map]
    show x ∈ r.list.map (·.1)
    rw [← Rows.list_names]
    exact hx
/-- what comes of a step is sound again, not much deeper -/
def Out.snd (fs : List Str) (D : Nat) : Out → Prop
  | .fault _ => True
  | .went _ q => q.sd fs [] ∧ q.wt ≤ D
theorem Out.snd_mono {fs : List Str} {D D' : Nat} (h : D ≤ D') : ∀ {o : Out}, o.snd fs D → o.snd fs D'
  | .fault _, _ => trivial
  | .went _ q, ⟨a, b⟩ => ⟨a, Nat.le_trans b h⟩
theorem callM_snd {P : Prog} (hf : P.fine) {p : Part} (h : p.sd P.names []) (hz : ∀ f, p.head = .fn f → p.given.length = P.wantsOf f) : (callM P p).snd P.names (p.wt + 33) := by
  obtain ⟨h1, h2, h3⟩ := h.head_sd
  unfold callM
  split
  · rename_i f e
    rw [e] at h1
    obtain ⟨j, fn, e1, e2, e3, e4, e5, e6⟩ := Prog.fn_of hf h1
    have hl : p.given.length = fn.things.length := by rw [hz f e, wants_len, e5]
    rw [e4, e5]
    have hm : ∀ x q, envL (fn.things.zip p.given) x = some q → q.sd P.names [] ∧ q.wt + 3 ≤ p.wt := fun x q e => envL_mem (P := fun q => q.sd P.names [] ∧ q.wt + 3 ≤ p.wt) (fun z hz => h2 _ (List.of_mem_zip (a := z.1) (b := z.2) hz).2) e
    refine ⟨Part.put_sd (sc := fn.things) (fun x q e => (hm x q e).1) (fun x hx => .inr (envG_some _ _ x (.inl ?_))) e6.body.sd, ?_⟩
    · rw [List.map_fst_zip (by omega)]; exact hx
    · have := Part.put_wt (env := envL (fn.things.zip p.given)) (M := p.wt - 3) (fun x q e => by have := (hm x q e).2; omega) fn.body
      have := p.wt_deep
      have := p.mxd_kids
      have := Part.wt_ok e6.body.ok
      have := e6.body.deep
      omega
  · trivial
theorem worth_head {P : Prog} {p : Part} {f : Str} (h : p.head = .fn f) : p.worth P = decide (p.given.length < P.wantsOf f) := worth_fn h
/-- a part given one thing more than a worth has: as many as its function wants -/
theorem give_len {P : Prog} {a b : Part} (h : a.worth P = true) (h2 : (Part.two .give a b).worth P = false) {f : Str} (e : (Part.two .give a b).head = .fn f) : (Part.two .give a b).given.length = P.wantsOf f := by
  have e' : a.head = .fn f := e
  rw [worth_fn e', decide_eq_true_eq] at h
  rw [worth_fn e, decide_eq_false_iff_not] at h2
  have : (Part.two .give a b).given.length = a.given.length + 1 := by
    show (a.given ++ [b]).length = _
    rw [List.length_append]
    rfl
  omega
theorem ownM_snd {P : Prog} (hf : P.fine) {p : Part} (h : p.sd P.names []) (hw : p.worth P = false) (h0 : strictM P p = 0) : (ownM P p).snd P.names (p.wt + 33) := by
  cases p with
  | num n => trivial
  | name x => trivial
  | fn f =>
    refine callM_snd hf h fun g e => ?_
    · cases e
      have := hw
      rw [worth_fn (f := f) rfl, decide_eq_false_iff_not] at this
      have e : (Part.fn f).given.length = 0 := rfl
      have hfm : f ∈ P.names := h
      show 0 = _
      rw [e] at this
      omega
  | one k a =>
    show (sideM k a).snd _ _
    unfold sideM
    split
    · rename_i x y
      have e : (Part.one k (Part.two .pair x y)).wt = 3 + (3 + max x.wt y.wt) := rfl
      cases k with
      | left => exact ⟨h.1, by show x.wt ≤ _; omega⟩
      | right => exact ⟨h.2, by show y.wt ≤ _; omega⟩
    · trivial
  | whn a b c =>
    show (whenM a b c).snd _ _
    unfold whenM
    split
    · rename_i n
      have e : (Part.whn (.num n) b c).wt = 3 + max 3 (max b.wt c.wt) := rfl
      by_cases hn : n = 0
      · rw [if_pos hn]; exact ⟨h.2.2, by omega⟩
      · rw [if_neg hn]; exact ⟨h.2.1, by omega⟩
    · trivial
  | two k a b =>
    have op : (opM k a b).snd P.names ((Part.two k a b).wt + 33) := by
      unfold opM
      split
      · split
        · rename_i h; exact ⟨h, by show 3 ≤ _; omega⟩
        · trivial
      · trivial
    cases k with
    | give =>
      refine callM_snd hf h fun g e => ?_
      have hav : a.worth P = true := by
        have h0' : (if a.worth P = true then 0 else 1) = 0 := h0
        by_cases hh : a.worth P = true
        · exact hh
        · rw [if_neg hh] at h0'; cases h0'
      exact give_len hav hw e
    | pair => trivial
    | plus => exact op
    | less => exact op
    | times => exact op
    | below => exact op
  | letp r a =>
    obtain ⟨h1, h2⟩ := rowsEnv_ok h
    refine ⟨Part.put_sd (sc := [] ++ r.names) (fun x q e => (h1 x q e).1) (fun x hx => .inr (h2 x (by simpa using hx))) h.2.2.2.2, ?_⟩
    have h3 := Part.put_wt (env := rowsEnv r) (M := (Part.letp r a).wt) (fun x q e => (h1 x q e).2) a
    have e : (Part.letp r a).wt = 3 + max r.wt a.wt := rfl
    have := h.2.1
    show (a.put (rowsEnv r)).wt ≤ _
    omega
  | shut a => exact ⟨h, by show a.wt ≤ 1 + a.wt + 33; omega⟩
theorem Out.map_snd {fs : List Str} {D D' : Nat} {g : Part → Part} {o : Out} (h : o.snd fs D) (hg : ∀ q, q.sd fs [] → q.wt ≤ D → (g q).sd fs [] ∧ (g q).wt ≤ D') : (o.map g).snd fs D' := by
  cases o with
  | fault w => trivial
  | went w q => exact hg q h.1 h.2
theorem strict_two {P : Prog} {k : K2} {a b : Part} : (strictM P (.two k a b) = 1 → a.worth P = false) ∧ (strictM P (.two k a b) = 0 ∨ strictM P (.two k a b) = 1 ∨ (strictM P (.two k a b) = 2 ∧ b.worth P = false)) := by
  cases k <;> unfold strictM <;> (repeat' split) <;> simp_all
theorem stepM_snd {P : Prog} (hf : P.fine) : ∀ {p : Part}, p.sd P.names [] → p.worth P = false → (stepM P p).snd P.names (p.wt + 33)
  | .num n, h, hw => trivial
  | .name x, h, hw => trivial
  | .fn f, h, hw => ownM_snd hf h hw rfl
  | .letp r a, h, hw => ownM_snd hf h hw rfl
  | .shut a, h, hw => ownM_snd hf h hw rfl
  | .one k a, h, hw => by
    unfold stepM
    by_cases h0 : strictM P (.one k a) = 0
    · rw [if_pos h0]; exact ownM_snd hf h hw h0
    · rw [if_neg h0]
      have haw : a.worth P = false := by
        cases e : a.worth P with
        | false => rfl
        | true => exact absurd (show (if a.worth P = true then 0 else 1) = 0 by rw [e]; rfl) h0
      refine Out.map_snd (stepM_snd hf (p := a) h haw) fun q hq hd => ⟨hq, ?_⟩
      show 3 + q.wt ≤ 3 + a.wt + 33
      omega
  | .whn a b c, h, hw => by
    unfold stepM
    by_cases h0 : strictM P (.whn a b c) = 0
    · rw [if_pos h0]; exact ownM_snd hf h hw h0
    · rw [if_neg h0]
      have haw : a.worth P = false := by
        cases e : a.worth P with
        | false => rfl
        | true => exact absurd (show (if a.worth P = true then 0 else 1) = 0 by rw [e]; rfl) h0
      refine Out.map_snd (stepM_snd hf (p := a) h.1 haw) fun q hq hd => ⟨⟨hq, h.2⟩, ?_⟩
      show 3 + max q.wt (max b.wt c.wt) ≤ 3 + max a.wt (max b.wt c.wt) + 33
      omega
  | .two k a b, h, hw => by
    unfold stepM
    obtain ⟨s1, s2⟩ := strict_two (P := P) (k := k) (a := a) (b := b)
    by_cases h0 : strictM P (.two k a b) = 0
    · rw [if_pos h0]; exact ownM_snd hf h hw h0
    · rw [if_neg h0]
      by_cases h1 : strictM P (.two k a b) = 1
      · rw [if_pos h1]
        refine Out.map_snd (stepM_snd hf (p := a) h.1 (s1 h1)) fun q hq hd => ⟨⟨hq, h.2⟩, ?_⟩
        show 3 + max q.wt b.wt ≤ 3 + max a.wt b.wt + 33
        omega
      · rw [if_neg h1]
        have hb : b.worth P = false := by
          rcases s2 with h | h | h
          · exact absurd h h0
          · exact absurd h h1
          · exact h.2
        refine Out.map_snd (stepM_snd hf (p := b) h.2 hb) fun q hq hd => ⟨⟨h.1, hq⟩, ?_⟩
        show 3 + max a.wt q.wt ≤ 3 + max a.wt b.wt + 33
        omega

/-! ### steps, walked: the program's own -/
def spBodies2 : Sp := fun vs H Q _ => ∃ (v : V) (P : Prog), vs = [v] ∧ Tp H v P.data ∧ P.fine ∧ ∀ (l : Addr) (us : List V) (H' : Hp), H' l = some (.lst us) → Tps H' us (P.bodies.map Part.data) → Same H H' → Q (.ref l) H'
theorem Prog.fn_at {H : Hp} {P : Prog} {vs : List V} {i : Nat} {x : V} (tfs : Tps H vs (P.fs.map Fn1.data)) (hx : vs[i]? = some x) : ∃ f, P.fs[i]? = some f ∧ Tp H x f.data := by
  obtain ⟨d, hd, td⟩ := tfs.get hx
  rw [List.getElem?_map] at hd
  obtain ⟨f, hf, rfl⟩ := Option.map_eq_some_iff.mp hd
  exact ⟨f, hf, td⟩
theorem pure_bodies2 {K : PySem.W.Frag} {w : World} : PureOk 1 spBodies2 (t_bodies K w) 4 := by
  refine ⟨fun vs H Q E ⟨_, _, e, _⟩ => by rw [e]; rfl, ?_⟩
  rintro vs H Q E ⟨v, P, rfl, tP, hfine, q⟩
  show t_bodies K w _ [some v, none, none, none] H
  unfold t_bodies
  obtain ⟨pa, fa, u, vs, rfl, epa, efa, tfs, tas⟩ := tP.prog
  have hvl : vs.length = P.fs.length := by rw [tfs.length, List.length_map]
  have hfew := hfine.few
  walk_at "gg"
  refine g_seqT ?_
  walk_at "gg"
  refine lc_mapT efa (by omega) (fun i y H' => ∃ f, P.fs[i]? = some f ∧ Tp H' y f.body.data) (fun i y H H' k ⟨f, h1, h2⟩ => ⟨f, h1, h2.mono k⟩) ?_ ?_
  · intro i x H' Nx hx s hN
    obtain ⟨f, hf, td⟩ := Prog.fn_at tfs hx
    obtain ⟨a3, b3, u3, rfl, ea3, eb3, tu3⟩ := td.fn1
    walk_at "gg"
    refine ⟨rfl, ?_⟩
    walk_at "gg"
    exact hN _ _ (.refl _) ⟨f, hf, by walk_at "tp"⟩
  · intro D ys H2 nD eD hys hF s2
    walk_at "gg"
    refine q _ _ _ (by walk_at "at") ?_ (by walk_at "same")
    show Tps _ _ ((P.fs.map (·.body) ++ [P.asked]).map Part.data)
    rw [List.map_append]
    refine Tps.append (Tps.mono (H := H2) (by walk_at "tk") (Tps.of_get (by rw [hys, hvl, List.length_map, List.length_map]) fun i y hy => ?_)) (.one (by walk_at "tp"))
    obtain ⟨f, hf, td⟩ := hF i y hy
    exact ⟨_, by rw [List.map_map, List.getElem?_map, hf]; rfl, td⟩
def spBodyOf : Sp := fun vs H Q _ => ∃ (v : V) (P : Prog) (f : Str), vs = [v, .str f] ∧ Tp H v P.data ∧ P.fine ∧ f ∈ P.names ∧ ∀ (v' : V) (H' : Hp), Tp H' v' (P.bodyOf f).data → Same H H' → Q v' H'
theorem pure_bodyof {K : PySem.W.Frag} {w : World} : PureOk 2 spBodyOf (t_body_of K w spBodies2 spNum) 2 := by
  refine ⟨fun vs H Q E ⟨_, _, _, e, _⟩ => by rw [e]; rfl, ?_⟩
  rintro vs H Q E ⟨v, P, f, rfl, tP, hfine, hf, q⟩
  show t_body_of K w _ _ _ [some v, some (.str f)] H
  unfold t_body_of
  obtain ⟨j, fn, h1, h2, h3, h4, h5, h6⟩ := Prog.fn_of hfine hf
  walk_at "gg"
  refine ⟨v, P, rfl, tP, hfine, fun l us H1 e1 t1 s1 => ?_⟩
  walk_at "gg"
  refine ⟨v, P, f, j, rfl, by walk_at "tp", hfine, .inl h3, fun H2 s2 => ?_⟩
  have hb : (P.bodies.map Part.data)[j]? = some (P.bodyOf f).data := by
    have h7 : (P.fs.map (·.body))[j]? = some fn.body := by rw [List.getElem?_map, h1]; rfl
    have h8 := (List.getElem?_eq_some_iff.mp h7).1
    rw [List.getElem?_map]
    show ((P.fs.map (·.body) ++ [P.asked])[j]?).map Part.data = _
    rw [List.getElem?_append_left h8, h7, h4]
    rfl
  obtain ⟨v', hv', tv'⟩ := t1.at hb
  refine g_ixL (.of (by walk_at "at")) (atI_of (by omega) (by simpa using hv')) ?_
  exact q v' H2 (by walk_at "tp") (by walk_at "same")
def spSpineB : Sp := fun vs H Q _ => ∃ (v : V) (p : Part), vs = [v] ∧ Tp H v p.data ∧ p.given.length ≤ 100000 ∧ ∀ (a l : Addr) (v' : V) (us : List V) (H' : Hp), H' a = some (.tup [v', .ref l]) → Tp H' v' p.head.data → H' l = some (.lst us) → Tps H' us (p.given.map Part.data) → Same H H' → Q (.ref a) H'
theorem pure_spineB {K : PySem.W.Frag} {w : World} : PureOk 1 spSpineB (t_spine K w) 2 := by
  refine ⟨fun vs H Q E ⟨_, _, e, _⟩ => by rw [e]; rfl, ?_⟩
  rintro vs H Q E ⟨v, p, rfl, t, hb, q⟩
  show t_spine K w _ [some v, none] H
  unfold t_spine
  walk_at "gg"
  rename_i fl H1 nf ef s1
  refine while_any (fun m σ H' => ∃ (v' : V) (c : Part) (us : List V) (gs : List Part), σ = [some v', some (.ref fl)] ∧ H' fl = some (.lst us) ∧ Tp H' v' c.data ∧ Tps H' us (gs.map Part.data) ∧ c.head = p.head ∧ p.given = c.given ++ gs.reverse ∧ m = c.big ∧ Chg fl H1 H') p.big
    ⟨v, p, [], [], rfl, ef, t.mono (Same.tk s1), .nil, rfl, by simp, rfl, .refl⟩ ?_
  rintro m σ H2 ⟨v', c, us, gs, rfl, hf, tc, tg, hh, hgv, rfl, c2⟩
  obtain ⟨a, xs, rfl, ea, tx⟩ := tc.part
  have hgl : p.given.length = c.given.length + gs.length := by rw [hgv, List.length_append, List.length_reverse]
  have hul : us.length = gs.length := by rw [tg.length, List.length_map]
  walk_at "gg"
  by_cases hw : c.word = "give"
  · refine g_T (decide_eq_true hw) ?_
    refine g_turn ?_
    obtain ⟨b, d, rfl⟩ := word_give hw
    have tx' : Tps H2 xs [b.data, d.data] := tx
    obtain ⟨x1, r, rfl, t1, h1⟩ := tx'.cons_inv
    obtain ⟨x2, r, rfl, t2, h1⟩ := h1.cons_inv
    rw [h1.nil_inv] at ea
    walk_at "gg"
    refine g_append hf (by show _ < 16777216; omega) ?_
    walk_at "gg"
    rename_i H3 e3 c3
    have k3 : Tk H2 H3 := c3.tkl hf
    refine g_ixT (.of (k3 _ _ ea)) (atI_of (by decide) rfl) ?_
    walk_at "gg"
    have hbig : (Part.two .give b d).big = 1 + (b.big + d.big) := rfl
    have hdp := d.big_pos
    refine ⟨b.big, by omega, x1, b, _, gs ++ [d], rfl, e3, t1.mono k3, ?_, hh, ?_, rfl, c2.trans c3⟩
    · rw [List.map_append]
      exact Tps.append (tg.mono k3) (.one (t2.mono k3))
    · rw [hgv, List.reverse_append]
      show (b.given ++ [d]) ++ _ = b.given ++ ([d] ++ _)
      rw [List.append_assoc]
  · refine g_F (decide_eq_false hw) ?_
    walk_at "gg"
    refine g_revL (.of hf) ?_
    walk_at "gg"
    rename_i l3 H3 n3 e3 s3 a4 H4 n4 e4 s4
    obtain ⟨e5, e6⟩ := head_not hw
    have s2 : Same H H2 := Same.chg s1 nf c2
    refine q a4 l3 _ _ H4 e4 ?_ (s4 _ _ e3) ?_ (s2.trans (s3.trans s4))
    · rw [← hh, e5]
      walk_at "tp"
    · rw [hgv, e6, List.nil_append, List.map_reverse]
      exact (tg.mono (Same.tk (s3.trans s4))).reverse
def spWorthB : Sp := fun vs H Q _ => ∃ (v v' : V) (P : Prog) (p : Part), vs = [v', v] ∧ Tp H v' P.data ∧ P.fine ∧ Tp H v p.data ∧ (∀ f, p.head = .fn f → f ∈ P.names) ∧ p.given.length ≤ 100000 ∧ ∀ (H' : Hp), Same H H' → Q (.bl (p.worth P)) H'
theorem pure_worthB {K : PySem.W.Frag} {w : World} : PureOk 2 spWorthB (t_is_worth K w spSpineB spWants) 4 := by
  refine ⟨fun vs H Q E ⟨_, _, _, _, e, _⟩ => by rw [e]; rfl, ?_⟩
  rintro vs H Q E ⟨v, v', P, p, rfl, tP, hfine, t, hwf, hb, q⟩
  show t_is_worth K w _ _ _ [some v', some v, none, none] H
  unfold t_is_worth
  obtain ⟨a, xs, rfl, ea, tx⟩ := t.part
  walk_at "gg"
  rename_i p1 H1 n1 e1 s1
  refine g_inT (ss := [("number" : Str), "pair"]) (.of e1) ?_
  walk_at "gg"
  by_cases hw : p.word ∈ [("number" : Str), "pair"]
  · refine g_T (decide_eq_true hw) ?_
    walk_at "gg"
    have : p.worth P = true := by unfold Part.worth; rw [decide_eq_true hw]; rfl
    rw [← this]
    exact q _ (by walk_at "same")
  refine g_F (decide_eq_false hw) ?_
  walk_at "gg"
  refine ⟨_, p, rfl, by walk_at "tp", hb, fun a2 l2 u2 us2 H2 ea2 tu2 el2 tus2 s2 => ?_⟩
  walk_at "gg"
  obtain ⟨a3, x3, rfl, ea3, tx3⟩ := tu2.part
  walk_at "gg"
  by_cases hf : p.head.word = "fun"
  · refine g_T (decide_eq_true hf) ?_
    walk_at "gg"
    obtain ⟨f, hf'⟩ := word_fun hf
    rw [hf'] at ea3 tx3
    have tx3' : Tps H2 x3 [.str f] := tx3
    obtain ⟨y, r, rfl, ty, hr⟩ := tx3'.cons_inv
    rw [hr.nil_inv, ty.str_inv] at ea3
    walk_at "gg"
    obtain ⟨ts, hts, htl⟩ := wants_at (hwf f hf')
    refine ⟨v', P, f, ts, rfl, by walk_at "tp", hfine, hts, fun H3 s3 => ?_⟩
    walk_at "gg"
    have e : decide ((us2.length : Int) < (ts.length : Int)) = p.worth P := by
      rw [worth_fn hf', tus2.length, List.length_map, htl]
      exact decide_eq_decide.mpr (by omega)
    rw [e]
    exact q H3 (by walk_at "same")
  · refine g_F (decide_eq_false hf) ?_
    have e : p.worth P = false := by rw [worth_no hf, decide_eq_false hw]
    have := q H2 (by walk_at "same")
    rw [e] at this
    show Q (.bl (decide (p.head.word = "fun"))) H2
    rw [decide_eq_false hf]
    exact this
theorem worth_pre {fs : List Str} {p : Part} (h : p.sd fs []) (hd : p.deep ≤ 90000) : (∀ f, p.head = .fn f → f ∈ fs) ∧ p.given.length ≤ 100000 := by
  obtain ⟨h1, h2, h3⟩ := h.head_sd
  exact ⟨fun f e => by rw [e] at h1; exact h1, by omega⟩
abbrev OPS (K : PySem.W.Frag) : Prop := GTup K (He.ga K "OPERATIONS") [.str "plus", .str "less", .str "times", .str "below"]
def spStrict : Sp := fun vs H Q _ => ∃ (v v' : V) (P : Prog) (p : Part), vs = [v', v] ∧ Tp H v' P.data ∧ P.fine ∧ Tp H v p.data ∧ p.sd P.names [] ∧ p.deep ≤ 90000 ∧ ∀ (H' : Hp), Same H H' → Q (.int (strictM P p)) H'
theorem pure_strict {K : PySem.W.Frag} {w : World} (T : OPS K) : PureOk 2 spStrict (t_strict_at K w spWorthB) 2 := by
  refine ⟨fun vs H Q E ⟨_, _, _, _, e, _⟩ => by rw [e]; rfl, ?_⟩
  rintro vs H Q E ⟨v, v', P, p, rfl, tP, hfine, t, hsd, hd, q⟩
  show t_strict_at K w _ _ [some v', some v] H
  unfold t_strict_at
  cases p with
  | num n =>
    obtain ⟨a, u1, u2, rfl, ea, t1, t2⟩ := t.two
    rw [t1.str_inv] at ea
    walk_at "gg"
    exact q _ (by walk_at "same")
  | name x => exact absurd hsd (by intro h; cases (show x ∈ ([] : List Str) from h))
  | fn f =>
    obtain ⟨a, u1, u2, rfl, ea, t1, t2⟩ := t.two
    rw [t1.str_inv] at ea
    walk_at "gg"
    exact q _ (by walk_at "same")
  | shut b =>
    obtain ⟨a, u1, u2, rfl, ea, t1, t2⟩ := t.two
    rw [t1.str_inv] at ea
    walk_at "gg"
    exact q _ (by walk_at "same")
  | letp r b =>
    obtain ⟨a, u1, u2, u3, rfl, ea, t1, t2, t3⟩ := t.three
    rw [t1.str_inv] at ea
    walk_at "gg"
    exact q _ (by walk_at "same")
  | one k b =>
    obtain ⟨a, u1, u2, rfl, ea, t1, t2⟩ := t.two
    rw [t1.str_inv] at ea
    have hb : b.deep ≤ 90000 := by have : (Part.one k b).deep = 1 + b.deep := rfl; omega
    have hwb := worth_pre (p := b) hsd hb
    have hst : strictM P (.one k b) = if b.worth P then 0 else 1 := rfl
    rw [hst] at q
    cases k <;>
    · walk_at "gg"
      refine ⟨_, _, P, b, rfl, by walk_at "tp", hfine, by walk_at "tp", hwb.1, hwb.2, fun H1 s1 => ?_⟩
      walk_at "gg"
      cases e : b.worth P with
      | true => rw [e] at q; walk_at "gg"; exact q _ (by walk_at "same")
      | false => rw [e] at q; walk_at "gg"; exact q _ (by walk_at "same")
  | whn b c d =>
    obtain ⟨a, xs, rfl, ea, tx⟩ := t.part
    obtain ⟨u1, r, rfl, t1, tr⟩ := Tps.cons_inv (ds := [c.data, d.data]) tx
    have hb : b.deep ≤ 90000 := by have : (Part.whn b c d).deep = 1 + max b.deep (max c.deep d.deep) := rfl; omega
    have hwb := worth_pre (p := b) hsd.1 hb
    have hst : strictM P (.whn b c d) = if b.worth P then 0 else 1 := rfl
    rw [hst] at q
    have ea' : H a = some (.tup (.str "when" :: u1 :: r)) := ea
    clear ea
    walk_at "gg"
    refine ⟨_, _, P, b, rfl, by walk_at "tp", hfine, by walk_at "tp", hwb.1, hwb.2, fun H1 s1 => ?_⟩
    walk_at "gg"
    cases e : b.worth P with
    | true => rw [e] at q; walk_at "gg"; exact q _ (by walk_at "same")
    | false => rw [e] at q; walk_at "gg"; exact q _ (by walk_at "same")
  | two k b c =>
    obtain ⟨a, u1, u2, u3, rfl, ea, t1, t2, t3⟩ := t.three
    rw [t1.str_inv] at ea
    have hb : b.deep ≤ 90000 ∧ c.deep ≤ 90000 := by have : (Part.two k b c).deep = 1 + max b.deep c.deep := rfl; omega
    have hwb := worth_pre (p := b) hsd.1 hb.1
    have hwc := worth_pre (p := c) hsd.2 hb.2
    have op : k.op = true → strictM P (.two k b c) = if b.worth P then (if b.word = "number" then (if c.worth P then 0 else 2) else 0) else 1 := by cases k <;> intro h <;> first | rfl | cases h
    obtain ⟨ab, xb, rfl, eb, txb⟩ := t2.part
    cases k with
    | pair =>
      walk_at "gg"
      exact q _ (by walk_at "same")
    | give =>
      have hst : strictM P (.two .give b c) = if b.worth P then 0 else 1 := rfl
      rw [hst] at q
      walk_at "gg"
      refine ⟨_, _, P, b, rfl, by walk_at "tp", hfine, by walk_at "tp", hwb.1, hwb.2, fun H1 s1 => ?_⟩
      walk_at "gg"
      cases e : b.worth P with
      | true => rw [e] at q; walk_at "gg"; exact q _ (by walk_at "same")
      | false => rw [e] at q; walk_at "gg"; exact q _ (by walk_at "same")
    | _ =>
      rw [op rfl] at q
      walk_at "gg"
      refine ⟨_, _, P, b, rfl, by walk_at "tp", hfine, by walk_at "tp", hwb.1, hwb.2, fun H1 s1 => ?_⟩
      walk_at "gg"
      cases e : b.worth P with
      | true =>
        rw [e] at q
        walk_at "gg"
        by_cases hn : b.word = "number"
        · rw [if_pos rfl, if_pos hn] at q
          refine g_T (decide_eq_true hn) ?_
          walk_at "gg"
          refine ⟨_, _, P, c, rfl, by walk_at "tp", hfine, by walk_at "tp", hwc.1, hwc.2, fun H2 s2 => ?_⟩
          walk_at "gg"
          cases e2 : c.worth P with
          | true => rw [e2] at q; walk_at "gg"; exact q _ (by walk_at "same")
          | false => rw [e2] at q; walk_at "gg"; exact q _ (by walk_at "same")
        · rw [if_pos rfl, if_neg hn] at q
          refine g_F (decide_eq_false hn) ?_
          walk_at "gg"
          refine ⟨_, _, P, b, rfl, by walk_at "tp", hfine, by walk_at "tp", hwb.1, hwb.2, fun H2 s2 => ?_⟩
          walk_at "gg"
          rw [e]
          walk_at "gg"
          exact q _ (by walk_at "same")
      | false =>
        rw [e] at q
        walk_at "gg"
        refine ⟨_, _, P, b, rfl, by walk_at "tp", hfine, by walk_at "tp", hwb.1, hwb.2, fun H2 s2 => ?_⟩
        walk_at "gg"
        rw [e]
        walk_at "gg"
        exact q _ (by walk_at "same")

/-! ### tables of parts -/
theorem EnvAt.put {H : Hp} {kvs : List (Key × V)} {env : Str → Option Part} {x : Str} {u : V} {q : Part} (h : EnvAt H (dvOf kvs) env) (t : Tp H u q.data) : EnvAt H (dvOf (putK kvs (.inr x) u)) (fun y => if y = x then some q else env y) := by
  intro y
  have e : dvOf (putK kvs (.inr x) u) y = if y = x then some u else dvOf kvs y := by
    unfold dvOf
    rw [valV_put]
    by_cases h : y = x
    · subst h; simp
    · rw [if_neg h, if_neg fun z => h (by cases z; rfl)]
  rw [e]
  by_cases hx : y = x
  · rw [if_pos hx]
    simp only [hx, if_true]
    exact .inr ⟨u, q, rfl, rfl, t⟩
  · rw [if_neg hx]
    simp only [hx, if_false]
    exact h y
theorem EnvAt.nil {H : Hp} : EnvAt H (dvOf []) (fun _ => none) := fun _ => .inl ⟨rfl, rfl⟩
theorem EnvAt.mono {H H' : Hp} {dv : Str → Option V} {env : Str → Option Part} (h : EnvAt H dv env) (k : Tk H H') : EnvAt H' dv env := fun x => (h x).imp id fun ⟨u, q, a, b, t⟩ => ⟨u, q, a, b, t.mono k⟩
theorem EnvAt.pairs {H : Hp} : ∀ {more kvs : List (Key × V)} {l : List (Str × Part)} {env : Str → Option Part}, EnvAt H (dvOf kvs) env → more.length = l.length →
    (∀ (i : Nat) k u, more[i]? = some (k, u) → ∃ q, l[i]? = some q ∧ k = .inr q.1 ∧ Tp H u q.2.data) → EnvAt H (dvOf (mergeK kvs more)) (envG env l)
  | [], kvs, [], env, h, _, _ => h
  | (k, u) :: more, kvs, q :: l, env, h, hl, hm => by
    obtain ⟨q', e1, e2, t⟩ := hm 0 k u rfl
    cases e1
    subst e2
    exact EnvAt.pairs (kvs := putK kvs (.inr q.1) u) (l := l) (env := fun x => if x = q.1 then some q.2 else env x) (h.put t) (Nat.succ.inj hl) fun i k' u' e => by simpa using hm (i + 1) k' u' (by simpa using e)
theorem EnvAt.zip {H : Hp} {ts : List Str} {ys : List V} {gs : List Part} (hl : ts.length = gs.length) (t : Tps H ys (gs.map Part.data)) : EnvAt H (dvOf (mergeK [] ((ts.map Sum.inr).zip ys))) (envL (ts.zip gs)) := by
  have hy : ys.length = gs.length := by rw [t.length, List.length_map]
  refine EnvAt.pairs EnvAt.nil (by simp [List.length_zip]; omega) fun i k u e => ?_
  rw [List.getElem?_zip_eq_some] at e
  obtain ⟨e1, e2⟩ := e
  obtain ⟨d, hd, td⟩ := t.get e2
  rw [List.getElem?_map] at hd e1
  obtain ⟨g, hg, rfl⟩ := Option.map_eq_some_iff.mp hd
  obtain ⟨s, hs, rfl⟩ := Option.map_eq_some_iff.mp e1
  exact ⟨(s, g), by rw [List.getElem?_zip_eq_some]; exact ⟨hs, hg⟩, rfl, td⟩
/-- a list of pairs, as pairs -/
theorem pairs_of {K : PySem.W.Frag} {H : Hp} {G : Nat → Key → V → Prop} : ∀ {ys : List V}, (∀ (i : Nat) y, ys[i]? = some y → ∃ c k u, y = .ref c ∧ H c = some (.tup [kV k, u]) ∧ G i k u) →
    ∃ (ps : List Addr) (kvs : List (Key × V)), ys = ps.map V.ref ∧ Paired (fun p kv => SqT K H p [kV kv.1, kv.2]) ps kvs ∧ kvs.length = ys.length ∧ ∀ (i : Nat) k u, kvs[i]? = some (k, u) → G i k u
  | [], _ => ⟨[], [], rfl, .nil, rfl, fun i k u e => by simp at e⟩
  | y :: ys, h => by
    obtain ⟨ps, kvs, e, pr, hl, hg⟩ := pairs_of (K := K) (H := H) (G := fun i => G (i + 1)) (ys := ys) fun i y hy => h (i + 1) y hy
    obtain ⟨c, k, u, rfl, ec, g⟩ := h 0 y rfl
    refine ⟨c :: ps, (k, u) :: kvs, by rw [e]; rfl, .cons (.of ec) pr, by simp [hl], fun i k' u' e' => ?_⟩
    cases i with
    | zero => cases e'; exact g
    | succ i => exact hg i k' u' (by simpa using e')
/-! ### numbers -/
theorem small_log {n : Int} (h : n.natAbs < 10 ^ 60) : n.natAbs.log2 < 200 := by
  by_cases h0 : n.natAbs = 0
  · rw [h0]; decide
  · rw [Nat.log2_lt h0]
    exact Nat.lt_trans h (by decide)
def spReck : Sp := fun vs H Q _ => ∃ (k : K2) (m n : Int), vs = [.str k.word, .int m, .int n] ∧ k.op = true ∧ m.natAbs < 10 ^ 60 ∧ n.natAbs < 10 ^ 60 ∧ Q (.int (reck k m n)) H
theorem pure_reck {K : PySem.W.Frag} {w : World} : PureOk 3 spReck (t_reckoned K w) 3 := by
  refine ⟨fun vs H Q E ⟨_, _, _, e, _⟩ => by rw [e]; rfl, ?_⟩
  rintro vs H Q E ⟨k, m, n, rfl, hk, hm, hn, q⟩
  show t_reckoned K w _ [some (.str k.word), some (.int m), some (.int n)] H
  unfold t_reckoned
  have l1 := small_log hm
  have l2 := small_log hn
  clear hm hn
  cases k with
  | give => cases hk
  | pair => cases hk
  | plus => walk_at "gg"; exact q
  | less => walk_at "gg"; exact q
  | times =>
    walk_at "gg"
    exact .inr ⟨m, n, rfl, rfl, by show _ + _ < 1000000; omega, q⟩
  | below =>
    walk_at "gg"
    have e : (if decide (m < n) = true then (1 : Int) else 0) = reck .below m n := by
      show _ = if m < n then (1 : Int) else 0
      by_cases h : m < n
      · rw [if_pos (decide_eq_true h), if_pos h]
      · rw [if_neg (by rw [decide_eq_false h]; decide), if_neg h]
    rw [e]
    exact q
def spSmall : Sp := fun vs H Q _ => ∃ (n : Int), vs = [.int n] ∧ Q (.bl (decide (n.natAbs < 10 ^ 60))) H
theorem pure_small {K : PySem.W.Frag} {w : World} : PureOk 1 spSmall (t_is_small K w) 1 := by
  refine ⟨fun vs H Q E ⟨_, e, _⟩ => by rw [e]; rfl, ?_⟩
  rintro vs H Q E ⟨n, rfl, q⟩
  show t_is_small K w _ [some (.int n)] H
  unfold t_is_small
  walk_at "gg"
  refine g_powI ⟨by decide, by decide, by decide⟩ ?_
  walk_at "gg"
  have e : decide ((n.natAbs : Int) < 10 ^ Int.toNat 60) = decide (n.natAbs < 10 ^ 60) := by
    refine decide_eq_decide.mpr ?_
    have : (10 : Int) ^ Int.toNat 60 = ((10 ^ 60 : Nat) : Int) := by rfl
    rw [this]
    exact Int.ofNat_lt
  rw [e]
  exact q
theorem word_num {p : Part} (h : p.word = "number") : ∃ n, p = .num n := by
  cases p with
  | num n => exact ⟨n, rfl⟩
  | two k a b => cases k <;> exact absurd h (by simp only [Part.word, K1.word, K2.word]; decide)
  | one k a => cases k <;> exact absurd h (by simp only [Part.word, K1.word, K2.word]; decide)
  | _ => exact absurd h (by simp only [Part.word, K1.word, K2.word]; decide)
theorem word_pair {p : Part} (h : p.word = "pair") : ∃ a b, p = .two .pair a b := by
  cases p with
  | two k a b => cases k with
    | pair => exact ⟨a, b, rfl⟩
    | _ => exact absurd h (by simp only [Part.word, K1.word, K2.word]; decide)
  | one k a => cases k <;> exact absurd h (by simp only [Part.word, K1.word, K2.word]; decide)
  | _ => exact absurd h (by simp only [Part.word, K1.word, K2.word]; decide)
theorem opM_no {k : K2} {a b : Part} (h : a.word ≠ "number" ∨ b.word ≠ "number") : opM k a b = .fault "number" := by
  unfold opM
  split
  · rcases h with h | h
    · exact absurd rfl h
    · exact absurd rfl h
  · rfl
theorem whenM_no {a b c : Part} (h : a.word ≠ "number") : whenM a b c = .fault "number" := by
  unfold whenM
  split
  · exact absurd rfl h
  · rfl
theorem sideM_no {k : K1} {a : Part} (h : a.word ≠ "pair") : sideM k a = .fault "pair" := by
  unfold sideM
  split
  · exact absurd rfl h
  · rfl
theorem Tp.num {H : Hp} {v : V} {n : Int} (h : Tp H v (Part.num n).data) : ∃ a, v = .ref a ∧ H a = some (.tup [.str "number", .int n]) := by
  obtain ⟨a, u1, u2, rfl, ea, t1, t2⟩ := h.two
  rw [t1.str_inv, t2.int_inv] at ea
  exact ⟨a, rfl, ea⟩
def spOfNum : Sp := fun vs H Q _ => ∃ (v : V) (k : K2) (a b : Part) (fs : List Str), vs = [v] ∧ Tp H v (Part.two k a b).data ∧ k.op = true ∧ a.sd fs [] ∧ b.sd fs [] ∧ ∀ (v' : V) (H' : Hp), Tp H' v' (opM k a b).data → Same H H' → Q v' H'
theorem pure_ofnum {K : PySem.W.Frag} {w : World} : PureOk 1 spOfNum (t_of_numbers K w spReck spSmall) 2 := by
  refine ⟨fun vs H Q E ⟨_, _, _, _, _, e, _⟩ => by rw [e]; rfl, ?_⟩
  rintro vs H Q E ⟨v, k, a, b, fs, rfl, t, hk, ha, hb, q⟩
  show t_of_numbers K w _ _ _ [some v, none] H
  unfold t_of_numbers
  obtain ⟨r, u1, u2, u3, rfl, er, t1, t2, t3⟩ := t.three
  rw [t1.str_inv] at er
  obtain ⟨aa, xa, rfl, ea, ta⟩ := t2.part
  obtain ⟨ab, xb, rfl, eb, tb⟩ := t3.part
  walk_at "gg"
  by_cases h1 : a.word = "number"
  · refine g_F (by rw [decide_eq_true h1]; rfl) ?_
    walk_at "gg"
    by_cases h2 : b.word = "number"
    · refine g_F (by rw [decide_eq_true h2]; rfl) ?_
      obtain ⟨m, rfl⟩ := word_num h1
      obtain ⟨n, rfl⟩ := word_num h2
      obtain ⟨_, e1, em⟩ := t2.num
      cases e1
      obtain ⟨_, e1, en⟩ := t3.num
      cases e1
      clear ea eb
      walk_at "gg"
      refine ⟨k, m, n, rfl, hk, ha, hb, ?_⟩
      walk_at "gg"
      refine ⟨_, rfl, ?_⟩
      walk_at "gg"
      by_cases hs : (reck k m n).natAbs < 10 ^ 60
      · rw [decide_eq_true hs]
        have e : opM k (.num m) (.num n) = .went "number" (.num (reck k m n)) := if_pos hs
        rw [e] at q
        clear hs e
        walk_at "gg"
        rename_i p1 H1 n1 e1 s1 p2 H2 n2 e2 s2
        exact q _ _ (.tup e2 (.cons (.str _) (.one (Tp.mono (H := H1) (by walk_at "tk") (tp_num e1))))) (by walk_at "same")
      · rw [decide_eq_false hs]
        have e : opM k (.num m) (.num n) = .fault "great" := if_neg hs
        rw [e] at q
        clear hs e
        walk_at "gg"
        exact q _ _ (by walk_at "tp") (by walk_at "same")
    · refine g_T (by rw [decide_eq_false h2]; rfl) ?_
      rw [opM_no (.inr h2)] at q
      walk_at "gg"
      exact q _ _ (by walk_at "tp") (by walk_at "same")
  · refine g_T (by rw [decide_eq_false h1]; rfl) ?_
    rw [opM_no (.inl h1)] at q
    walk_at "gg"
    exact q _ _ (by walk_at "tp") (by walk_at "same")
/-! ### calls -/
def spCalled : Sp := fun vs H Q _ => ∃ (v v' : V) (P : Prog) (p : Part), vs = [v', v] ∧ Tp H v' P.data ∧ P.fine ∧ Tp H v p.data ∧ p.sd P.names [] ∧ p.deep ≤ 90000 ∧ (∀ f, p.head = .fn f → p.given.length = P.wantsOf f) ∧
  ∀ (v' : V) (H' : Hp), Tp H' v' (callM P p).data → Same H H' → Q v' H'
theorem callM_no {P : Prog} {p : Part} (h : p.head.word ≠ "fun") : callM P p = .fault "function" := by
  unfold callM
  split
  · rename_i f e; rw [e] at h; exact absurd rfl h
  · rfl
theorem callM_fn {P : Prog} {p : Part} {f : Str} (h : p.head = .fn f) : callM P p = .went "call" ((P.bodyOf f).put (envL ((P.thingsOf f).zip p.given))) := by
  unfold callM
  rw [h]
theorem pure_called {K : PySem.W.Frag} {w : World} : PureOk 2 spCalled (t_called K w spSpineB (spPut 12) spThings spBodyOf) 4 := by
  refine ⟨fun vs H Q E ⟨_, _, _, _, e, _⟩ => by rw [e]; rfl, ?_⟩
  rintro vs H Q E ⟨v, v', P, p, rfl, tP, hfine, t, hsd, hd, hgl, q⟩
  show t_called K w _ _ _ _ _ [some v', some v, none, none] H
  unfold t_called
  have hwp := worth_pre hsd hd
  walk_at "gg"
  refine ⟨_, p, rfl, t, hwp.2, fun a2 l2 u2 us2 H2 ea2 tu2 el2 tus2 s2 => ?_⟩
  walk_at "gg"
  obtain ⟨a3, x3, rfl, ea3, tx3⟩ := tu2.part
  walk_at "gg"
  by_cases hf : p.head.word = "fun"
  · refine g_F (by rw [decide_eq_true hf]; rfl) ?_
    obtain ⟨f, hf'⟩ := word_fun hf
    have hfm := hwp.1 f hf'
    have hgl' := hgl f hf'
    rw [hf'] at ea3 tx3
    have tx3' : Tps H2 x3 [.str f] := tx3
    obtain ⟨y, r, rfl, ty, hr⟩ := tx3'.cons_inv
    rw [hr.nil_inv, ty.str_inv] at ea3
    rw [callM_fn hf'] at q
    obtain ⟨j, fn, h1, h2, h3, h4, h5, h6⟩ := Prog.fn_of hfine hfm
    walk_at "gg"
    refine ⟨_, P, f, rfl, by walk_at "tp", hfine, hfm, fun v3 H3 t3 s3 => ?_⟩
    walk_at "gg"
    refine ⟨_, P, f, fn.things, rfl, by walk_at "tp", hfine, .inl ⟨j, fn, h1, h2, rfl⟩, fun a4 H4 e4 s4 => ?_⟩
    walk_at "gg"
    refine ⟨.tup, .lst, a4, l2, fn.things.map Sum.inr, us2, rfl, ?_, .of (by walk_at "at"), ?_⟩
    · show SqT _ _ _ _
      rw [List.map_map]
      exact .of e4
    walk_at "gg"
    rename_i d5 H5 n5 e5 s5
    rw [h4] at t3 q
    refine ⟨_, fn.body, d5, _, rfl, by walk_at "tp", h6.body.deep, h6.body.size, e5, fun v6 H6 p6 s6 => ?_⟩
    walk_at "gg"
    rename_i a7 H7 n7 e7 s7
    have hlen : fn.things.length = p.given.length := by rw [hgl', wants_len, h5]
    have t6 := p6.tp (EnvAt.zip hlen (tus2.mono (by walk_at "tk")))
    rw [h5] at q
    exact q _ _ (.tup e7 (.cons (.str _) (.one (t6.mono (Same.tk s7))))) (by walk_at "same")
  · refine g_T (by rw [decide_eq_false hf]; rfl) ?_
    rw [callM_no hf] at q
    walk_at "gg"
    exact q _ _ (by walk_at "tp") (by walk_at "same")

/-! ### a step of a part -/
section
variable {K : PySem.W.Frag} {H : Hp} {Q : VK} {a b : Addr} {xs ys : List V} {lo hi : Option Int}
theorem g_addTT (h1 : H a = some (.tup xs)) (h2 : H b = some (.tup ys)) (hl : xs.length + ys.length ≤ sizeLine) (q : ∀ c H', H' c = some (.tup (xs ++ ys)) → Same H H' → Q (.ref c) H') : rAddG K (.ref a) (.ref b) H Q := by
  refine .inr (.inr (.inr ⟨a, b, xs, ys, rfl, rfl, .of h1, .of h2, hl, fun e => ?_, fun _ e => ?_, fun _ _ p H' _ e s => q p H' e s⟩))
  · subst e
    exact q b H h2 (.refl _)
  · subst e
    exact q a H (by rw [List.append_nil]; exact h1) (.refl _)
theorem cutV_all (h : HT.sIx xs.length 0 lo = 0 ∧ HT.sIx xs.length xs.length hi = xs.length) : cutV xs lo hi = xs := by
  unfold cutV
  rw [h.1, h.2]
  simp
theorem g_slTT (h : H a = some (.tup xs)) (q : ∀ c H', H' c = some (.tup (cutV xs lo hi)) → Same H H' → Q (.ref c) H') : rSlG K (.ref a) lo hi H Q :=
  .inr (.inl ⟨a, xs, rfl, .of h, fun e => q a H (by rw [cutV_all e]; exact h) (.refl _), fun _ p H' _ e s => q p H' e s⟩)
theorem cutV_to (n : Nat) (h : n ≤ xs.length) : cutV xs none (some (n : Int)) = xs.take n := by
  unfold cutV
  rw [HT.sIx_none, HT.sIx_nat, Nat.min_eq_left h]
  rfl
theorem cutV_from (n : Nat) (h : n ≤ xs.length) : cutV xs (some (n : Int)) none = xs.drop n := by
  unfold cutV
  rw [HT.sIx_none, HT.sIx_nat, Nat.min_eq_left h]
  rw [List.take_of_length_le (by rw [List.length_drop]; omega)]
end
theorem Tps.set {H : Hp} : ∀ {xs : List V} {ds : List PyData} {i : Nat} {v : V} {d : PyData}, Tps H xs ds → Tp H v d → Tps H (xs.set i v) (ds.set i d)
  | [], _, i, v, d, h, _ => by cases h; exact .nil
  | x :: xs, _, 0, v, d, h, t => by
    cases h with
    | cons a b => exact .cons t b
  | x :: xs, _, i + 1, v, d, h, t => by
    cases h with
    | cons a b => exact .cons a (Tps.set b t)
theorem worth_np {P : Prog} {p : Part} (h : p.word ∈ [("number" : Str), "pair"]) : p.worth P = true := by
  unfold Part.worth
  rw [decide_eq_true h]
  rfl
def spOwn : Sp := fun vs H Q _ => ∃ (v v' : V) (P : Prog) (p : Part), vs = [v', v] ∧ Tp H v' P.data ∧ P.fine ∧ Tp H v p.data ∧ p.sd P.names [] ∧ p.deep ≤ 90000 ∧ p.worth P = false ∧ strictM P p = 0 ∧
  ∀ (v' : V) (H' : Hp), Tp H' v' (ownM P p).data → Same H H' → Q v' H'
theorem pure_own {K : PySem.W.Frag} {w : World} (T : OPS K) : PureOk 2 spOwn (t_own_step K w spOfNum spCalled (spPut 12)) 4 := by
  refine ⟨fun vs H Q E ⟨_, _, _, _, e, _⟩ => by rw [e]; rfl, ?_⟩
  rintro vs H Q E ⟨v, v', P, p, rfl, tP, hfine, t, hsd, hd, hw, h0, q⟩
  show t_own_step K w _ _ _ _ [some v', some v, none, none] H
  unfold t_own_step
  cases p with
  | num n => rw [worth_np (p := .num n) (by simp [Part.word])] at hw; cases hw
  | name x => exact absurd hsd (by intro h; cases (show x ∈ ([] : List Str) from h))
  | fn f =>
    obtain ⟨a, u1, u2, rfl, ea, t1, t2⟩ := t.two
    rw [t1.str_inv] at ea
    walk_at "gg"
    refine ⟨_, _, P, .fn f, rfl, by walk_at "tp", hfine, by walk_at "tp", hsd, hd, fun g e => ?_, fun v2 H2 t2 s2 => ?_⟩
    · cases e
      rw [worth_fn (f := f) rfl, decide_eq_false_iff_not] at hw
      have e : (Part.fn f).given.length = 0 := rfl
      omega
    · exact q _ _ t2 (by walk_at "same")
  | shut b =>
    obtain ⟨a, u1, u2, rfl, ea, t1, t2⟩ := t.two
    rw [t1.str_inv] at ea
    walk_at "gg"
    exact q _ _ (.tup (by walk_at "at") (.cons (.str _) (.one (by walk_at "tp")))) (by walk_at "same")
  | letp r b =>
    obtain ⟨a, u1, u2, u3, rfl, ea, t1, t2, t3⟩ := t.three
    rw [t1.str_inv] at ea
    obtain ⟨ra, rs, rfl, er, tr⟩ := t2.tup_inv
    have hrl : rs.length = r.list.length := by rw [tr.length, Rows.list_datas, List.length_map]
    have hll := r.list_len
    obtain ⟨s1, s2, s3, s4, s5⟩ := id hsd
    walk_at "gg"
    refine g_seqT ?_
    walk_at "gg"
    rename_i p1 H1 n1 e1 x1
    refine lc_mapT (by walk_at "at" : H1 ra = some (.tup rs)) (by omega) (fun i y H' => ∃ c q d u, r.list[i]? = some q ∧ y = .ref c ∧ H' c = some (.tup [.str q.1, .ref d]) ∧ H' d = some (.tup [.str "let", .ref ra, u]) ∧ Tp H' u q.2.data)
      (fun i y H H' k ⟨c, q, d, u, h1, h2, h3, h4, h5⟩ => ⟨c, q, d, u, h1, h2, k _ _ h3, k _ _ h4, h5.mono k⟩) ?_ ?_
    · intro i x H' Nx hx s hN
      obtain ⟨q1, c, u, hq, rfl, ec, tu⟩ := Rows.list_at tr hx
      walk_at "gg"
      refine ⟨rfl, ?_⟩
      walk_at "gg"
      exact hN _ _ (by walk_at "same") ⟨_, q1, _, u, hq, rfl, by walk_at "at", by walk_at "at", by walk_at "tp"⟩
    · intro D ys H2 nD eD hys hF x2
      walk_at "gg"
      have er2 : H2 ra = some (.tup rs) := by walk_at "at"
      have tr2 : Tps H2 rs r.datas := tr.mono (by walk_at "tk")
      obtain ⟨ps, kvs, rfl, pr, hkl, hg⟩ := pairs_of (K := K) (H := H2) (G := fun i k u => ∃ q, r.list[i]? = some q ∧ k = .inr q.1 ∧ Tp H2 u (Part.letp r q.2).data) (ys := ys) fun i y hy => by
        obtain ⟨c, q, d, u, h1, h2, h3, h4, h5⟩ := hF i y hy
        exact ⟨c, .inr q.1, .ref d, h2, h3, q, h1, rfl, .tup h4 (.cons (.str _) (.cons (.tup er2 tr2) (.one h5)))⟩
      refine ⟨D, ps, kvs, rfl, .of eD, pr, ?_⟩
      walk_at "gg"
      rename_i d3 H3 n3 e3 x3
      refine ⟨_, b, d3, _, rfl, by walk_at "tp", by omega, by omega, e3, fun v4 H4 p4 x4 => ?_⟩
      walk_at "gg"
      rename_i a5 H5 n5 e5 x5
      have henv : EnvAt H2 (dvOf (mergeK [] kvs)) (rowsEnv r) := EnvAt.pairs EnvAt.nil (by rw [hkl, hys, hrl, List.length_map]) fun i k u e => by
        obtain ⟨q, h1, h2, h3⟩ := hg i k u e
        exact ⟨(q.1, .letp r q.2), by rw [List.getElem?_map, h1]; rfl, h2, h3⟩
      have t4 := p4.tp (henv.mono (Same.tk (x3.trans x4)))
      exact q _ _ (.tup e5 (.cons (.str _) (.one (t4.mono (Same.tk x5))))) (by walk_at "same")
  | one k b =>
    obtain ⟨a, u1, u2, rfl, ea, t1, t2⟩ := t.two
    rw [t1.str_inv] at ea
    obtain ⟨ab, xb, rfl, eb, txb⟩ := t2.part
    have q' : ∀ (v' : V) (H' : Hp), Tp H' v' (sideM k b).data → Same H H' → Q v' H' := q
    clear q
    by_cases hp : b.word = "pair"
    · obtain ⟨x, y, rfl⟩ := word_pair hp
      obtain ⟨z1, r, rfl, tz1, tr⟩ := Tps.cons_inv (ds := [y.data]) txb
      obtain ⟨z2, r, rfl, tz2, tr⟩ := Tps.cons_inv (ds := []) tr
      rw [tr.nil_inv] at eb
      have eb' : H ab = some (.tup [.str "pair", z1, z2]) := eb
      clear eb
      cases k with
      | left =>
        walk_at "gg"
        exact q' _ _ (.tup (by walk_at "at") (.cons (.str _) (.one (by walk_at "tp")))) (by walk_at "same")
      | right =>
        walk_at "gg"
        exact q' _ _ (.tup (by walk_at "at") (.cons (.str _) (.one (by walk_at "tp")))) (by walk_at "same")
    · rw [sideM_no hp] at q'
      cases k with
      | left =>
        walk_at "gg"
        refine g_T (by rw [decide_eq_false hp]; rfl) ?_
        walk_at "gg"
        exact q' _ _ (by walk_at "tp") (by walk_at "same")
      | right =>
        walk_at "gg"
        refine g_T (by rw [decide_eq_false hp]; rfl) ?_
        walk_at "gg"
        exact q' _ _ (by walk_at "tp") (by walk_at "same")
  | whn b c d =>
    obtain ⟨a, xs, rfl, ea, tx⟩ := t.part
    obtain ⟨u1, r, rfl, t1, tr⟩ := Tps.cons_inv (ds := [c.data, d.data]) tx
    obtain ⟨u2, r, rfl, t2, tr⟩ := Tps.cons_inv (ds := [d.data]) tr
    obtain ⟨u3, r, rfl, t3, tr⟩ := Tps.cons_inv (ds := []) tr
    rw [tr.nil_inv] at ea
    have ea' : H a = some (.tup [.str "when", u1, u2, u3]) := ea
    clear ea
    obtain ⟨ab, xb, rfl, eb, txb⟩ := t1.part
    have q' : ∀ (v' : V) (H' : Hp), Tp H' v' (whenM b c d).data → Same H H' → Q v' H' := q
    clear q
    walk_at "gg"
    by_cases hn : b.word = "number"
    · refine g_F (by rw [decide_eq_true hn]; rfl) ?_
      obtain ⟨n, rfl⟩ := word_num hn
      obtain ⟨_, e1, en⟩ := t1.num
      cases e1
      clear eb
      walk_at "gg"
      by_cases hz : n = 0
      · subst hz
        walk_at "gg"
        exact q' _ _ (.tup (by walk_at "at") (.cons (.str _) (.one (by walk_at "tp")))) (by walk_at "same")
      · have e : whenM (.num n) c d = .went "turn" c := by show Out.went _ (if n = 0 then d else c) = _; rw [if_neg hz]
        rw [e] at q'
        refine g_T (by rw [decide_eq_false hz]; rfl) ?_
        walk_at "gg"
        exact q' _ _ (.tup (by walk_at "at") (.cons (.str _) (.one (by walk_at "tp")))) (by walk_at "same")
    · rw [whenM_no hn] at q'
      refine g_T (by rw [decide_eq_false hn]; rfl) ?_
      walk_at "gg"
      exact q' _ _ (by walk_at "tp") (by walk_at "same")
  | two k b c =>
    obtain ⟨a, u1, u2, u3, rfl, ea, t1, t2, t3⟩ := t.three
    rw [t1.str_inv] at ea
    cases k with
    | pair => rw [worth_np (p := .two .pair b c) (by simp [Part.word, K2.word])] at hw; cases hw
    | give =>
      walk_at "gg"
      refine ⟨_, _, P, .two .give b c, rfl, by walk_at "tp", hfine, by walk_at "tp", hsd, hd, fun g e => ?_, fun v2 H2 t2 s2 => ?_⟩
      · refine give_len ?_ hw e
        have h0' : (if b.worth P = true then 0 else 1) = 0 := h0
        by_cases hh : b.worth P = true
        · exact hh
        · rw [if_neg hh] at h0'; cases h0'
      · exact q _ _ t2 (by walk_at "same")
    | _ =>
      walk_at "gg"
      refine ⟨_, _, b, c, P.names, rfl, by walk_at "tp", rfl, hsd.1, hsd.2, fun v2 H2 t2 s2 => ?_⟩
      exact q _ _ t2 (by walk_at "same")
/-- a part in the place of another one's sub-part -/
def plug : Part → Nat → Part → Part
  | .one k _, _, q => .one k q
  | .whn _ b c, _, q => .whn q b c
  | .two k a b, n, q => if n = 1 then .two k q b else .two k a q
  | p, _, _ => p
def sub : Part → Nat → Part
  | .one _ a, _ => a
  | .whn a _ _, _ => a
  | .two _ a b, n => if n = 1 then a else b
  | p, _ => p
theorem stepM_eq (P : Prog) (p : Part) : stepM P p = if strictM P p = 0 then ownM P p else (stepM P (sub p (strictM P p))).map (plug p (strictM P p)) := by
  cases p with
  | one k a =>
    conv => lhs; unfold stepM
    rfl
  | whn a b c =>
    conv => lhs; unfold stepM
    rfl
  | two k a b =>
    conv => lhs; unfold stepM
    by_cases h0 : strictM P (.two k a b) = 0
    · rw [if_pos h0, if_pos h0]
    · rw [if_neg h0, if_neg h0]
      by_cases h1 : strictM P (.two k a b) = 1
      · rw [if_pos h1, h1]
        have : plug (.two k a b) 1 = fun x => .two k x b := rfl
        rw [this]
        rfl
      · rw [if_neg h1]
        have : plug (.two k a b) (strictM P (.two k a b)) = fun x => .two k a x := by
          funext x
          show (if _ then _ else _) = _
          rw [if_neg h1]
        rw [this]
        show _ = Out.map _ (stepM P (if _ then _ else _))
        rw [if_neg h1]
  | _ => rfl
/-- where it may be plugged -/
structure Plug (x : Part) (n : Nat) : Prop where
  pos : 1 ≤ n
  args : x.args[n - 1]? = some (sub x n).data
  data : ∀ q, (plug x n q).data = .tuple (.str x.word :: x.args.set (n - 1) q.data)
theorem strict_plug {P : Prog} {p : Part} (h : strictM P p ≠ 0) : Plug p (strictM P p) ∧ ∀ fs, p.sd fs [] → (sub p (strictM P p)).sd fs [] ∧ (sub p (strictM P p)).deep < p.deep ∧ (sub p (strictM P p)).worth P = false := by
  cases p with
  | num n => exact absurd rfl h
  | name x => exact absurd rfl h
  | fn f => exact absurd rfl h
  | shut a => exact absurd rfl h
  | letp r a => exact absurd rfl h
  | one k a =>
    have hst : strictM P (.one k a) = if a.worth P = true then 0 else 1 := rfl
    by_cases hw : a.worth P = true
    · rw [hst, if_pos hw] at h; exact absurd rfl h
    · have e : strictM P (.one k a) = 1 := by rw [hst, if_neg hw]
      rw [e]
      exact ⟨⟨Nat.le_refl _, rfl, fun q => rfl⟩, fun fs hs => ⟨hs, by show a.deep < 1 + a.deep; omega, Bool.eq_false_iff.mpr hw⟩⟩
  | whn a b c =>
    have hst : strictM P (.whn a b c) = if a.worth P = true then 0 else 1 := rfl
    by_cases hw : a.worth P = true
    · rw [hst, if_pos hw] at h; exact absurd rfl h
    · have e : strictM P (.whn a b c) = 1 := by rw [hst, if_neg hw]
      rw [e]
      exact ⟨⟨Nat.le_refl _, rfl, fun q => rfl⟩, fun fs hs => ⟨hs.1, by show a.deep < 1 + max a.deep _; omega, Bool.eq_false_iff.mpr hw⟩⟩
  | two k a b =>
    obtain ⟨s1, s2⟩ := strict_two (P := P) (k := k) (a := a) (b := b)
    rcases s2 with e | e | ⟨e, hb⟩
    · exact absurd e h
    · rw [e]
      exact ⟨⟨Nat.le_refl _, rfl, fun q => rfl⟩, fun fs hs => ⟨hs.1, by show a.deep < 1 + max a.deep _; omega, s1 e⟩⟩
    · rw [e]
      exact ⟨⟨by decide, rfl, fun q => rfl⟩, fun fs hs => ⟨hs.2, by show b.deep < 1 + max a.deep b.deep; omega, hb⟩⟩
def plugs : List (Part × Nat) → Part → Part
  | [], q => q
  | x :: r, q => plug x.1 x.2 (plugs r q)
theorem plugs_snoc : ∀ (s : List (Part × Nat)) (x : Part) (n : Nat) (q : Part), plugs (s ++ [(x, n)]) q = plugs s (plug x n q)
  | [], x, n, q => rfl
  | y :: s, x, n, q => by
    show plug y.1 y.2 (plugs (s ++ [(x, n)]) q) = _
    rw [plugs_snoc s x n q]
    rfl
theorem Out.map_map (f g : Part → Part) (o : Out) : (o.map f).map g = o.map fun q => g (f q) := by cases o <;> rfl
def stkD (x : Part × Nat) : PyData := .tuple [x.1.data, .int x.2]
theorem args_few (p : Part) : p.args.length ≤ 3 := by
  cases p with
  | one k a => exact (by decide : 1 ≤ 3)
  | two k a b => exact (by decide : 2 ≤ 3)
  | whn a b c => exact (by decide : 3 ≤ 3)
  | letp r a => exact (by decide : 2 ≤ 3)
  | num n => exact (by decide : 1 ≤ 3)
  | name n => exact (by decide : 1 ≤ 3)
  | fn n => exact (by decide : 1 ≤ 3)
  | shut n => exact (by decide : 1 ≤ 3)
theorem callM_word {P : Prog} {p : Part} {wd : Str} {q : Part} (h : callM P p = .went wd q) : wd = "call" := by
  unfold callM at h
  split at h
  · cases h; rfl
  · cases h
theorem opM_word {k : K2} {a b : Part} {wd : Str} {q : Part} (h : opM k a b = .went wd q) : wd = "number" := by
  unfold opM at h
  split at h
  · split at h
    · cases h; rfl
    · cases h
  · cases h
theorem ownM_word {P : Prog} {c : Part} {wd : Str} {q : Part} (h : ownM P c = .went wd q) : wd ≠ "fault" := by
  cases c with
  | one k a =>
    have h' : sideM k a = .went wd q := h
    unfold sideM at h'
    split at h'
    · cases h'; decide
    · cases h'
  | whn a b c =>
    have h' : whenM a b c = .went wd q := h
    unfold whenM at h'
    split at h'
    · cases h'; decide
    · cases h'
  | two k a b =>
    cases k with
    | give => rw [callM_word (P := P) (p := .two .give a b) h]; decide
    | pair => cases h
    | _ => rw [opM_word (k := _) (a := a) (b := b) h]; decide
  | fn f => rw [callM_word (P := P) (p := .fn f) h]; decide
  | letp r a => cases h; decide
  | shut a => cases h; decide
  | num n => cases h
  | name x => cases h
def spStep : Sp := fun vs H Q _ => ∃ (v v' : V) (P : Prog) (p : Part), vs = [v', v] ∧ Tp H v' P.data ∧ P.fine ∧ Tp H v p.data ∧ p.sd P.names [] ∧ p.deep ≤ 90000 ∧ p.worth P = false ∧
  ∀ (v' : V) (H' : Hp), Tp H' v' (stepM P p).data → Same H H' → Q v' H'

/-! ### how many things a function wants: the law's own -/
def spLWants : Sp := fun vs H Q _ => ∃ (v : V) (P : Prog) (f : Str), vs = [v, .str f] ∧ Tp H v P.data ∧ P.fine ∧ f ∈ P.names ∧ ∀ (H' : Hp), Same H H' → Q (.int (P.wantsOf f)) H'
theorem pick_at {P : Prog} (hf : P.fine) {f : Str} {j : Nat} (hj : P.names[j]? = some f) {i : Nat} {g : Fn1} (hi : P.fs[i]? = some g) : g.name = f ↔ i = j := by
  constructor
  · intro e
    have h1 : P.names[i]? = some f := by show (P.fs.map _)[i]? = _; rw [List.getElem?_map, hi, ← e]; rfl
    obtain ⟨k1, k2⟩ := List.getElem?_eq_some_iff.mp h1
    obtain ⟨k3, k4⟩ := List.getElem?_eq_some_iff.mp hj
    rcases Nat.lt_trichotomy i j with hlt | he | hgt
    · exact absurd (k2.trans k4.symm) ((List.pairwise_iff_getElem.mp hf.nd) i j k1 k3 hlt)
    · exact he
    · exact absurd (k4.trans k2.symm) ((List.pairwise_iff_getElem.mp hf.nd) j i k3 k1 hgt)
  · rintro rfl
    have : (P.fs.map (·.name))[i]? = some f := hj
    rw [List.getElem?_map, hi] at this
    exact Option.some.inj this
theorem pure_lwants {K : PySem.W.Frag} {w : World} : PureOk 2 spLWants (t_law_wants K w) 5 := by
  refine ⟨fun vs H Q E ⟨_, _, _, e, _⟩ => by rw [e]; rfl, ?_⟩
  rintro vs H Q E ⟨v, P, f, rfl, tP, hfine, hfm, q⟩
  show t_law_wants K w _ [some v, some (.str f), none, none, none] H
  unfold t_law_wants
  obtain ⟨pa, fa, u, vs, rfl, epa, efa, tfs, tas⟩ := tP.prog
  obtain ⟨j, fn, h1, h2, h3, h4, h5, h6⟩ := Prog.fn_of hfine hfm
  have hvl : vs.length = P.fs.length := by rw [tfs.length, List.length_map]
  have hfew := hfine.few
  have hjl := (List.getElem?_eq_some_iff.mp h1).1
  walk_at "gg"
  refine g_seqT ?_
  walk_at "gg"
  refine lc_one efa (by omega) j (by omega) (fun y H' => ∃ b, y = .ref b ∧ H' b = some (.tup (fn.things.map V.str))) (fun y H H' k ⟨b, e, h⟩ => ⟨b, e, k _ _ h⟩) ?_ ?_
  · intro i x H' Na Nb hx s hA hB
    obtain ⟨g, hg, td⟩ := Prog.fn_at tfs hx
    obtain ⟨a3, b3, u3, rfl, ea3, eb3, tu3⟩ := td.fn1
    have hp := pick_at hfine h3 hg
    walk_at "gg"
    refine ⟨rfl, ?_⟩
    walk_at "gg"
    by_cases e : g.name = f
    · have hi := hp.mp e
      refine g_T (decide_eq_true e) ?_
      walk_at "gg"
      subst hi
      rw [h1] at hg
      cases hg
      exact hA _ _ rfl (.refl _) ⟨b3, rfl, by walk_at "at"⟩
    · refine g_F (decide_eq_false e) ?_
      exact hB _ (fun z => e (hp.mpr z)) (.refl _)
  · rintro D y H2 nD eD ⟨b, rfl, hb⟩ s2
    walk_at "gg"
    rw [List.length_map, show fn.things.length = P.wantsOf f from by rw [wants_len, h5]]
    exact q H2 s2

/-! ### runs, plainly -/
inductive Res
  | worth (p : Part) | fault (w : Str) | more
def runM (P : Prog) : Nat → Part → Res × List Str
  | n, p => if p.worth P then (.worth p, []) else match stepM P p with
    | .fault w => (.fault w, [])
    | .went w q => match n with
      | 0 => (.more, [])
      | n + 1 => ((runM P n q).1, w :: (runM P n q).2)
theorem runM_worth {P : Prog} {n : Nat} {p : Part} (h : p.worth P = true) : runM P n p = (.worth p, []) := by
  unfold runM
  rw [if_pos h]
theorem runM_fault {P : Prog} {n : Nat} {p : Part} {w : Str} (h : p.worth P = false) (e : stepM P p = .fault w) : runM P n p = (.fault w, []) := by
  unfold runM
  rw [if_neg (by rw [h]; decide), e]
theorem runM_more {P : Prog} {p : Part} {w : Str} {q : Part} (h : p.worth P = false) (e : stepM P p = .went w q) : runM P 0 p = (.more, []) := by
  unfold runM
  rw [if_neg (by rw [h]; decide), e]
theorem runM_step {P : Prog} {n : Nat} {p : Part} {w : Str} {q : Part} (h : p.worth P = false) (e : stepM P p = .went w q) : runM P (n + 1) p = ((runM P n q).1, w :: (runM P n q).2) := by
  conv => lhs; unfold runM
  rw [if_neg (by rw [h]; decide), e]
theorem runM_len (P : Prog) : ∀ (n : Nat) (p : Part), (runM P n p).2.length ≤ n := by
  intro n
  induction n with
  | zero =>
    intro p
    cases h : p.worth P with
    | true => rw [runM_worth h]; exact Nat.le_refl _
    | false => cases e : stepM P p with
      | fault w => rw [runM_fault h e]; exact Nat.le_refl _
      | went w q => rw [runM_more h e]; exact Nat.le_refl _
  | succ n ih =>
    intro p
    cases h : p.worth P with
    | true => rw [runM_worth h]; exact Nat.zero_le _
    | false => cases e : stepM P p with
      | fault w => rw [runM_fault h e]; exact Nat.zero_le _
      | went w q => rw [runM_step h e]; have := ih q; show _ + 1 ≤ n + 1; omega
theorem word_no {P : Prog} {p : Part} (h : p.word ∉ [("give" : Str), "fun", "number", "pair"]) : p.worth P = false := by
  simp only [List.mem_cons, List.not_mem_nil, or_false, not_or] at h
  have e := (head_not h.1).1
  rw [worth_no (by rw [e]; exact h.2.1), decide_eq_false]
  simp only [List.mem_cons, List.not_mem_nil, or_false, not_or]
  exact h.2.2
/-- a part whose sub-part is to be stepped first is no worth -/
theorem strict_worth {P : Prog} {p : Part} (h : strictM P p ≠ 0) : p.worth P = false := by
  cases p with
  | num n => exact absurd rfl h
  | name x => exact absurd rfl h
  | fn f => exact absurd rfl h
  | shut a => exact absurd rfl h
  | letp r a => exact absurd rfl h
  | one k a =>
    have hk : ∀ k : K1, k.word ∉ [("give" : Str), "fun", "number", "pair"] := by intro k; cases k <;> decide
    exact word_no (hk k)
  | whn a b c => exact word_no (show ("when" : Str) ∉ [("give" : Str), "fun", "number", "pair"] by decide)
  | two k a b =>
    cases k with
    | pair => exact absurd rfl h
    | give =>
      have hst : strictM P (.two .give a b) = if a.worth P = true then 0 else 1 := rfl
      have ha : a.worth P = false := by
        cases e : a.worth P with
        | false => rfl
        | true => rw [hst, e] at h; exact absurd rfl h
      by_cases hf : a.head.word = "fun"
      · obtain ⟨f, hf'⟩ := word_fun hf
        rw [worth_fn hf', decide_eq_false_iff_not] at ha
        have e2 : (Part.two .give a b).head = .fn f := hf'
        rw [worth_fn e2, decide_eq_false_iff_not]
        have : (Part.two .give a b).given.length = a.given.length + 1 := by
          show (a.given ++ [b]).length = _
          rw [List.length_append]; rfl
        omega
      · rw [worth_no (p := .two .give a b) hf]
        exact decide_eq_false (show ("give" : Str) ∉ _ by decide)
    | plus => exact word_no (show ("plus" : Str) ∉ [("give" : Str), "fun", "number", "pair"] by decide)
    | less => exact word_no (show ("less" : Str) ∉ [("give" : Str), "fun", "number", "pair"] by decide)
    | times => exact word_no (show ("times" : Str) ∉ [("give" : Str), "fun", "number", "pair"] by decide)
    | below => exact word_no (show ("below" : Str) ∉ [("give" : Str), "fun", "number", "pair"] by decide)
/-- a place that is stepped first as long as what stands there is no worth -/
structure Hot (P : Prog) (x : Part) (n : Nat) : Prop where
  plug : Plug x n
  hot : ∀ c, c.worth P = false → strictM P (Lz.plug x n c) = n
  sub : ∀ c, Lz.sub (Lz.plug x n c) n = c
  again : ∀ c d, Lz.plug (Lz.plug x n c) n d = Lz.plug x n d
  wt : ∀ c, 3 + c.wt ≤ (Lz.plug x n c).wt
theorem strict_hot {P : Prog} {p : Part} (h : strictM P p ≠ 0) : Hot P p (strictM P p) := by
  obtain ⟨hp, _⟩ := strict_plug h
  refine ⟨hp, ?_, ?_, ?_, ?_⟩
  all_goals
    cases p with
    | num n => exact absurd rfl h
    | name x => exact absurd rfl h
    | fn f => exact absurd rfl h
    | shut a => exact absurd rfl h
    | letp r a => exact absurd rfl h
    | one k a =>
      have hst : strictM P (.one k a) = if a.worth P = true then 0 else 1 := rfl
      have e1 : strictM P (.one k a) = 1 := by
        rw [hst] at h ⊢
        split
        · rename_i hh; rw [if_pos hh] at h; exact absurd rfl h
        · rfl
      rw [e1]
      intro c
      first
      | (intro hc; show (if c.worth P = true then 0 else 1) = 1; rw [hc]; rfl)
      | rfl
      | (intro d; rfl)
      | (show 3 + c.wt ≤ 3 + c.wt; omega)
    | whn a b d =>
      have hst : strictM P (.whn a b d) = if a.worth P = true then 0 else 1 := rfl
      have e1 : strictM P (.whn a b d) = 1 := by
        rw [hst] at h ⊢
        split
        · rename_i hh; rw [if_pos hh] at h; exact absurd rfl h
        · rfl
      rw [e1]
      intro c
      first
      | (intro hc; show (if c.worth P = true then 0 else 1) = 1; rw [hc]; rfl)
      | rfl
      | (intro d; rfl)
      | (show 3 + c.wt ≤ 3 + max c.wt _; omega)
    | two k a b =>
      obtain ⟨s1, s2⟩ := strict_two (P := P) (k := k) (a := a) (b := b)
      rcases s2 with e1 | e1 | ⟨e1, hb⟩
      · exact absurd e1 h
      · rw [e1]
        intro c
        first
        | (intro hc
           have hx : ∀ k : K2, k ≠ .pair → strictM P (.two k c b) = 1 := by
             intro k hk
             cases k with
             | pair => exact absurd rfl hk
             | give => show (if c.worth P = true then 0 else 1) = 1; rw [hc]; rfl
             | _ => show (if c.worth P = true then _ else 1) = 1; rw [hc]; rfl
           exact hx k (by rintro rfl; exact h rfl))
        | rfl
        | (intro d; rfl)
        | (show 3 + c.wt ≤ 3 + max c.wt b.wt; omega)
      · rw [e1]
        intro c
        have hk : k.op = true := by
          cases k with
          | give =>
            have hst : strictM P (.two .give a b) = if a.worth P = true then 0 else 1 := rfl
            rw [hst] at e1
            split at e1 <;> cases e1
          | pair => exact absurd rfl h
          | _ => rfl
        have op : ∀ z, strictM P (.two k a z) = if a.worth P = true then (if a.word = "number" then (if z.worth P = true then 0 else 2) else 0) else 1 := fun z => by cases k <;> first | rfl | cases hk
        first
        | (intro hc
           show strictM P (.two k a c) = 2
           rw [op] at e1 ⊢
           by_cases hw : a.worth P = true
           · rw [if_pos hw] at e1 ⊢
             by_cases hn : a.word = "number"
             · rw [if_pos hn, hc]; rfl
             · rw [if_neg hn] at e1; cases e1
           · rw [if_neg hw] at e1; cases e1)
        | rfl
        | (intro d; rfl)
        | (show 3 + c.wt ≤ 3 + max a.wt c.wt; omega)
/-- a step within -/
theorem plugs_step {P : Prog} : ∀ {stk : List (Part × Nat)} {c : Part}, (∀ x ∈ stk, Hot P x.1 x.2) → c.worth P = false → stepM P (plugs stk c) = (stepM P c).map (plugs stk) ∧ (plugs stk c).worth P = false
  | [], c, _, hc => ⟨by show stepM P c = _; cases stepM P c <;> rfl, hc⟩
  | x :: r, c, h, hc => by
    obtain ⟨h1, h2⟩ := plugs_step (stk := r) (fun y hy => h y (List.mem_cons_of_mem _ hy)) hc
    have hx := h x List.mem_cons_self
    have h3 := hx.hot _ h2
    have h0 : strictM P (plug x.1 x.2 (plugs r c)) ≠ 0 := by rw [h3]; have := hx.plug.pos; omega
    refine ⟨?_, strict_worth h0⟩
    show stepM P (plug x.1 x.2 (plugs r c)) = _
    rw [stepM_eq, if_neg h0, h3, hx.sub, h1, Out.map_map]
    congr 1
    funext z
    exact hx.again _ _
theorem plugs_wt {P : Prog} : ∀ {stk : List (Part × Nat)} {c : Part}, (∀ x ∈ stk, Hot P x.1 x.2) → c.wt + 3 * stk.length ≤ (plugs stk c).wt
  | [], c, _ => Nat.le_refl _
  | x :: r, c, h => by
    have h1 := plugs_wt (stk := r) (c := c) fun y hy => h y (List.mem_cons_of_mem _ hy)
    have h2 := (h x List.mem_cons_self).wt (plugs r c)
    show c.wt + 3 * (r.length + 1) ≤ (plug x.1 x.2 (plugs r c)).wt
    omega

/-! ### runs, walked: the program's own -/
/-- outer[:at] + (found,) + outer[at + 1:] -/
theorem g_plug {K : PySem.W.Frag} {σ : L2.St} {H : Hp} {Q : VK} {i j k : Nat} {v u : V} {n : Nat} {x q : Part} (hp : Plug x n) (h1 : σ[i]? = some (some u)) (h2 : σ[j]? = some (some (.int n))) (h3 : σ[k]? = some (some v)) (tx : Tp H u x.data) (tv : Tp H v q.data)
    (hq : ∀ c H', Tp H' (.ref c) (plug x n q).data → Same H H' → Q (.ref c) H') :
    (tOp (rAddG K) (tOp (rAddG K) (tSl (rSlG K) (tVar i) tNoPart (tPart (tVar j))) (tTupN (tCons (tVar k) tNil))) (tSl (rSlG K) (tVar i) (tPart (tOp (rAddG K) (tVar j) (tC (.int 1)))) tNoPart)) σ H Q := by
  obtain ⟨ao, xs, rfl, eao, txs⟩ := tx.part
  have hnl := (List.getElem?_eq_some_iff.mp hp.args).1
  rw [← txs.length] at hnl
  have hfew : xs.length ≤ 3 := by rw [txs.length]; exact args_few x
  have hpos := hp.pos
  walk_at "gg"
  refine g_var h1 ?_
  walk_at "gg"
  refine g_var h2 ?_
  walk_at "gg"
  refine g_slTT eao fun o8 H8 e8 s8 => ?_
  rw [cutV_to n (by rw [List.length_cons]; omega)] at e8
  walk_at "gg"
  refine g_var h3 ?_
  walk_at "gg"
  rename_i o9 H9 n9 e9 s9
  refine g_addTT (by walk_at "at" : H9 o8 = _) e9 (by rw [List.length_take]; walk_at "len") fun o10 H10 e10 s10 => ?_
  walk_at "gg"
  refine g_var h1 ?_
  walk_at "gg"
  refine g_var h2 ?_
  walk_at "gg"
  refine g_slTT (by walk_at "at" : H10 ao = _) fun o11 H11 e11 s11 => ?_
  rw [show (n : Int) + 1 = ((n + 1 : Nat) : Int) from by omega, cutV_from (n + 1) (by rw [List.length_cons]; omega)] at e11
  walk_at "gg"
  refine g_addTT (by walk_at "at" : H11 o10 = _) e11 (by simp only [List.length_append, List.length_take, List.length_drop, List.length_cons, List.length_nil]; show _ ≤ 16777216; omega) fun o12 H12 e12 s12 => ?_
  have hset : List.take n (V.str x.word :: xs) ++ [v] ++ List.drop (n + 1) (V.str x.word :: xs) = V.str x.word :: xs.set (n - 1) v := by
    obtain ⟨k, rfl⟩ : ∃ k, n = k + 1 := ⟨n - 1, by omega⟩
    simp only [List.take_succ_cons, List.drop_succ_cons, Nat.add_sub_cancel]
    rw [List.set_eq_take_append_cons_drop, if_pos (by simpa using hnl)]
    simp
  rw [hset] at e12
  refine hq _ _ ?_ (by walk_at "same")
  rw [hp.data]
  exact .tup e12 (.cons (.str _) ((txs.mono (by walk_at "tk")).set (tv.mono (by walk_at "tk"))))
theorem g_cutP {A : Prop} {H : Hp} (C : Prop) {B : Hp → Prop} (f : (∀ H', Same H H' → C → B H') → A) (b : ∀ H', Same H H' → C → B H') : A := f b
theorem plug_sd {P : Prog} {x : Part} {n : Nat} (h : Hot P x n) {fs : List Str} {c : Part} (hs : (plug x n c).sd fs []) : c.sd fs [] := by
  have e := h.sub c
  have hp := h.plug.pos
  cases x with
  | num m => have := h.wt (.num 0); exact absurd this (by show ¬ 3 + 3 ≤ 3; decide)
  | name m => have := h.wt (.num 0); exact absurd this (by show ¬ 3 + 3 ≤ 3; decide)
  | fn m => have := h.wt (.num 0); exact absurd this (by show ¬ 3 + 3 ≤ 3; decide)
  | one k a => exact hs
  | whn a b d => exact hs.1
  | two k a b =>
    by_cases h1 : n = 1
    · subst h1; exact hs.1
    · have e2 : plug (.two k a b) n c = .two k a c := by show (if n = 1 then _ else _) = _; rw [if_neg h1]
      rw [e2] at hs
      exact hs.2
  | letp r a =>
    have e2 : sub (.letp r a) n = c := e
    have h2 := h.wt (.num 0)
    have h3 := h.again (.num 0) (.num 1)
    have h4 := h.sub (.num 0)
    have e5 : Part.letp r a = .num 0 := h4
    cases e5
  | shut a =>
    have h4 := h.sub (.num 0)
    have e5 : Part.shut a = .num 0 := h4
    cases e5
theorem plugs_sd {P : Prog} {fs : List Str} : ∀ {stk : List (Part × Nat)} {c : Part}, (∀ x ∈ stk, Hot P x.1 x.2) → (plugs stk c).sd fs [] → c.sd fs []
  | [], c, _, h => h
  | x :: r, c, h, hs => plugs_sd (stk := r) (fun y hy => h y (List.mem_cons_of_mem _ hy)) (plug_sd (h x List.mem_cons_self) hs)
def Res.word : Res → Str
  | .worth _ => "worth"
  | .fault _ => "fault"
  | .more => "more"
def ResAt (H : Hp) (x : V) : Res → Prop
  | .worth p => Tp H x p.data
  | .fault w => x = .str w
  | .more => True
def spCome : Sp := fun vs H Q _ => ∃ (v v' : V) (P : Prog) (p : Part) (n : Nat), vs = [v', v, .int n] ∧ Tp H v' P.data ∧ P.fine ∧ Tp H v p.data ∧ p.sd P.names [] ∧ p.wt ≤ 30000 ∧ n ≤ 401 ∧
  ∀ (t wl : Addr) (x : V) (H' : Hp), H' t = some (.tup [.str (runM P n p).1.word, x, .ref wl]) → ResAt H' x (runM P n p).1 → H wl = none → H' wl = some (.lst ((runM P n p).2.map V.str)) → Same H H' → Q (.ref t) H'
theorem pure_come {K : PySem.W.Frag} {w : World} : PureOk 3 spCome (t_come_to K w spWorthB spStrict spOwn) 9 := by
  refine ⟨fun vs H Q E ⟨_, _, _, _, _, e, _⟩ => by rw [e]; rfl, ?_⟩
  rintro vs H Q E ⟨v, v', P, p, n, rfl, tP, hfine, t, hsd, hwt, hn, q⟩
  show t_come_to K w _ _ _ _ [some v', some v, some (.int n), none, none, none, none, none, none] H
  unfold t_come_to
  walk_at "gg"
  rename_i wl H0 n0 e0 s0 fl H1 n1 e1 s1
  have hwf : wl ≠ fl := by walk_at "ne"
  have e01 : H1 wl = some (.lst []) := by walk_at "at"
  have hwl : H wl = none := n0
  have hfl : H fl = none := s0.free n1
  refine while_any (fun m σ H' => ∃ (v1 : V) (c : Part) (us : List V) (stk : List (Part × Nat)) (ws : List Str) (x5 x6 x7 x8 : Option V), σ = [some v', some v1, some (.int n), some (.ref wl), some (.ref fl), x5, x6, x7, x8] ∧
      H' fl = some (.lst us) ∧ Tps H' us (stk.map stkD) ∧ (∀ x ∈ stk, Hot P x.1 x.2) ∧ Tp H' v1 c.data ∧ (plugs stk c).sd P.names [] ∧ ws.length ≤ n ∧ (plugs stk c).wt ≤ 30000 + 33 * ws.length ∧
      runM P n p = ((runM P (n - ws.length) (plugs stk c)).1, ws ++ (runM P (n - ws.length) (plugs stk c)).2) ∧ H' wl = some (.lst (ws.map V.str)) ∧
      m = (n - ws.length) * 200000 + (if c.worth P = true then 100000 + stk.length else c.deep) ∧ (∀ b o, H b = some o → H' b = some o)) _
    ⟨v, p, [], [], [], none, none, none, none, rfl, e1, .nil, by simp, by walk_at "tp", hsd, Nat.zero_le _, by show p.wt ≤ _; omega, rfl, e01, rfl, fun b o e => s1 _ _ (s0 _ _ e)⟩ ?_
  rintro m σ H2 ⟨v1, c, us, stk, ws, x5, x6, x7, x8, rfl, ef, ts, hhot, tc, hws, hwl2, hwt2, hrun, ew, rfl, k2⟩
  have tP2 : Tp H2 v' P.data := tP.mono fun b xs e => k2 b _ e
  have hcs := plugs_sd hhot hws
  have hcw := plugs_wt (P := P) hhot (c := c)
  have hcd := c.wt_deep
  have hdeep : c.deep ≤ 90000 := by omega
  have hwp := worth_pre hcs hdeep
  have hul : us.length = stk.length := by rw [ts.length, List.length_map]
  walk_at "gg"
  rename_i nl H3 n3 e3 s3
  refine g_cutP (H := H2) (c.worth P = true → us ≠ []) (B := ?B) ?f ?b
  case f =>
    intro tail
    by_cases hu : us = []
    · refine g_F (by rw [hu]; rfl) ?_
      walk_at "gg"
      refine ⟨_, _, P, c, rfl, by walk_at "tp", hfine, by walk_at "tp", hwp.1, hwp.2, fun H4 s4 => ?_⟩
      walk_at "gg"
      by_cases e : c.worth P = true
      · refine g_F (by rw [e]; rfl) ?_
        walk_at "gg"
        rename_i t5 H5 n5 e5 s5
        have hs0 : stk = [] := List.length_eq_zero_iff.mp (by rw [← hul, hu]; rfl)
        have hr : runM P n p = (.worth c, ws) := by rw [hrun, hs0, show plugs [] c = c from rfl, runM_worth e, List.append_nil]
        rw [hr] at q
        exact q t5 wl v1 H5 e5 (by show Tp _ _ _; walk_at "tp") hwl (by walk_at "at") fun b o e => s5 _ _ (s4 _ _ (s3 _ _ (k2 _ _ e)))
      · refine g_T (by rw [Bool.eq_false_iff.mpr e]; rfl) ?_
        exact tail _ (s3.trans s4) fun h => absurd h e
    · refine g_T (by cases us with | nil => exact absurd rfl hu | cons x y => rfl) ?_
      walk_at "gg"
      exact tail _ s3 fun _ => hu
  case b =>
    intro H4 s4 hcu
    refine g_turn ?_
    have ef4 := s4 _ _ ef
    have ew4 := s4 _ _ ew
    have k4 : ∀ {H5 : Hp}, (∀ b o, b ≠ wl → b ≠ fl → H4 b = some o → H5 b = some o) → ∀ b o, H b = some o → H5 b = some o := fun h b o e => h b o (ne_of_none e hwl) (ne_of_none e hfl) (s4 _ _ (k2 _ _ e))
    have tP4 : Tp H4 v' P.data := tP2.mono (Same.tk s4)
    have tc4 : Tp H4 v1 c.data := tc.mono (Same.tk s4)
    have ts4 := ts.mono (Same.tk s4)
    clear s4 s3 n3 e3 k2 tP2 tc ts ef ew
    walk_at "gg"
    refine ⟨_, _, P, c, rfl, tP4, hfine, tc4, hwp.1, hwp.2, fun H5 s5 => ?_⟩
    walk_at "gg"
    have ef5 := s5 _ _ ef4
    have ew5 := s5 _ _ ew4
    by_cases e : c.worth P = true
    · refine g_T e ?_
      walk_at "gg"
      refine ⟨_, _, P, c, rfl, by walk_at "tp", hfine, by walk_at "tp", hwp.1, hwp.2, fun H6 s6 => ?_⟩
      walk_at "gg"
      refine g_T e ?_
      walk_at "gg"
      have hne : stk ≠ [] := by
        intro h
        exact hcu e (List.length_eq_zero_iff.mp (by rw [hul, h]; rfl))
      obtain ⟨stk2, ⟨x, m⟩, rfl⟩ : ∃ s y, stk = s ++ [y] := ⟨stk.dropLast, stk.getLast hne, (List.dropLast_concat_getLast hne).symm⟩
      have hx := hhot (x, m) (by simp)
      rw [List.map_append] at ts4
      obtain ⟨us2, w1, rfl, ts2, tw⟩ := ts4.snoc_inv
      obtain ⟨ro, y1, y2, rfl, ero, ty1, ty2⟩ := Tp.two (d := x.data) (e := .int m) tw
      rw [ty2.int_inv] at ero
      have ef6 : H6 fl = some (.lst (us2 ++ [.ref ro])) := by walk_at "at"
      have ero6 : H6 ro = some (.tup [y1, .int m]) := by walk_at "at"
      have ty6 : Tp H6 y1 x.data := by walk_at "tp"
      have tc6 : Tp H6 v1 c.data := by walk_at "tp"
      refine g_pop ef6 ?_
      walk_at "gg"
      rename_i H7 e7 c7
      have k67 : Tk H6 H7 := c7.tkl ef6
      refine g_un2 (k67 _ _ ero6) ?_
      dsimp only [List.set]
      refine g_asg ?_
      refine g_plug (i := 6) (j := 5) (k := 1) (q := c) hx.plug ?a1 ?a2 ?a3 (ty6.mono k67) (tc6.mono k67) fun o8 H8 t8 s8 => ?_
      case a1 => exact rfl
      case a2 => exact rfl
      case a3 => exact rfl
      walk_at "gg"
      have hwh : plugs stk2 (plug x m c) = plugs (stk2 ++ [(x, m)]) c := (plugs_snoc stk2 x m c).symm
      have s46 : Same H4 H6 := s5.trans s6
      have k48 : Tk H4 H8 := (Same.tk s46).trans (k67.trans (Same.tk s8))
      have hhot2 : ∀ y ∈ stk2, Hot P y.1 y.2 := fun y hy => hhot y (List.mem_append.mpr (.inl hy))
      have hb := plugs_wt (P := P) hhot2 (c := plug x m c)
      have hbd := (plug x m c).wt_deep
      rw [hwh] at hb
      refine ⟨_, ?_, .ref o8, plug x m c, us2, stk2, ws, _, _, _, _, rfl, s8 _ _ e7, ts2.mono k48, hhot2, t8, by rw [hwh]; exact hws, hwl2, by rw [hwh]; exact hwt2, by rw [hwh]; exact hrun, s8 _ _ (c7 _ _ hwf (s6 _ _ ew5)), rfl,
        k4 fun b o h1 h2 h => s8 _ _ (c7 _ _ h2 (s46 _ _ h))⟩
      rw [if_pos e, List.length_append, List.length_singleton]
      split <;> omega
    · have e := Bool.eq_false_iff.mpr e
      refine g_F e ?_
      walk_at "gg"
      refine ⟨_, _, P, c, rfl, by walk_at "tp", hfine, by walk_at "tp", hcs, hdeep, fun H6 s6 => ?_⟩
      walk_at "gg"
      refine ⟨_, _, P, c, rfl, by walk_at "tp", hfine, by walk_at "tp", hwp.1, hwp.2, fun H7 s7 => ?_⟩
      walk_at "gg"
      refine g_F e ?_
      walk_at "gg"
      by_cases h0 : strictM P c = 0
      · refine g_F (by rw [h0]; rfl) ?_
        walk_at "gg"
        refine ⟨_, _, P, c, rfl, by walk_at "tp", hfine, by walk_at "tp", hcs, hdeep, e, h0, fun v8 H8 t8 s8 => ?_⟩
        obtain ⟨hst, hnw⟩ := plugs_step hhot e
        rw [stepM_eq P c, if_pos h0] at hst
        have hsnd := stepM_snd hfine hws hnw
        rw [hst] at hsnd
        cases ho : ownM P c with
        | fault wd =>
          rw [ho] at t8 hst
          obtain ⟨r, x1, x2, rfl, er, t1, t2⟩ := Tp.two (d := .str "fault") (e := .str wd) t8
          rw [t1.str_inv, t2.str_inv] at er
          walk_at "gg"
          rename_i a9 H9 n9 e9 s9
          have hr : runM P n p = (.fault wd, ws) := by rw [hrun, runM_fault hnw hst, List.append_nil]
          rw [hr] at q
          exact q a9 wl _ H9 e9 rfl hwl (by walk_at "at") (k4 fun b o _ _ h => s9 _ _ (s8 _ _ (s7 _ _ (s6 _ _ (s5 _ _ h)))))
        | went wd q0 =>
          have hwd := ownM_word ho
          rw [ho] at t8 hst hsnd
          obtain ⟨r, x1, x2, rfl, er, t1, t2⟩ := Tp.two (d := .str wd) (e := q0.data) t8
          rw [t1.str_inv] at er
          clear ho
          walk_at "gg"
          refine g_F (decide_eq_false hwd) ?_
          walk_at "gg"
          by_cases hm : ws.length = n
          · refine g_T (decide_eq_true (by rw [List.length_map]; omega)) ?_
            walk_at "gg"
            rename_i a9 H9 n9 e9 s9
            have hr : runM P n p = (.more, ws) := by rw [hrun, show n - ws.length = 0 by omega, runM_more hnw hst, List.append_nil]
            rw [hr] at q
            exact q a9 wl _ H9 e9 trivial hwl (by walk_at "at") (k4 fun b o _ _ h => s9 _ _ (s8 _ _ (s7 _ _ (s6 _ _ (s5 _ _ h)))))
          · refine g_F (decide_eq_false (by rw [List.length_map]; omega)) ?_
            walk_at "gg"
            refine g_append (by walk_at "at" : H8 wl = some (.lst (ws.map V.str))) (by rw [List.length_map]; show _ < 16777216; omega) ?_
            walk_at "gg"
            rename_i H9 e9 c9
            have ew8 : H8 wl = some (.lst (ws.map V.str)) := by walk_at "at"
            have k89 : Tk H8 H9 := c9.tkl ew8
            have hn1 : n - ws.length = (n - (ws ++ [wd]).length) + 1 := by rw [List.length_append, List.length_singleton]; omega
            have hwl3 : (ws ++ [wd]).length = ws.length + 1 := by rw [List.length_append]; rfl
            have k58 : Same H5 H8 := s6.trans (s7.trans s8)
            have hsnd' : (plugs stk q0).sd P.names [] ∧ (plugs stk q0).wt ≤ (plugs stk c).wt + 33 := hsnd
            have hq0 := plugs_wt (P := P) hhot (c := q0)
            have hq0d := q0.wt_deep
            refine ⟨_, ?_, x2, q0, us, stk, ws ++ [wd], _, _, _, _, rfl, c9 _ _ hwf.symm (k58 _ _ ef5), (ts4.mono (Same.tk (s5.trans k58))).mono k89, hhot, t2.mono k89, hsnd'.1, by omega, by omega, ?_, ?_, rfl, k4 fun b o h1 h2 h => c9 _ _ h1 (k58 _ _ (s5 _ _ h))⟩
            · have e' : ¬ (c.worth P = true) := by rw [e]; decide
              rw [if_neg e']
              split <;> omega
            · rw [hrun, hn1, runM_step hnw hst]
              simp
            · rw [e9]; simp
      · refine g_T (decide_eq_true (by omega)) ?_
        obtain ⟨hp1, hs1⟩ := strict_plug h0
        have hh1 := strict_hot h0
        obtain ⟨hs2, hs3, hs4⟩ := hs1 _ hcs
        have hp := hp1.pos
        have tc7 : Tp H7 v1 c.data := by walk_at "tp"
        obtain ⟨ac, xs, rfl, eac, txs⟩ := tc7.part
        obtain ⟨w1, hw1, tw1⟩ := txs.at hp1.args
        walk_at "gg"
        rename_i o8 H8 n8 e8 s8
        have ef8 : H8 fl = some (.lst us) := by walk_at "at"
        refine g_append ef8 (by show _ < 16777216; omega) ?_
        walk_at "gg"
        rename_i H9 e9 c9
        have k89 : Tk H8 H9 := c9.tkl ef8
        have eac9 : H9 ac = some (.tup (.str c.word :: xs)) := k89 _ _ (s8 _ _ eac)
        refine g_ixT (.of eac9) (v := w1) (atI_of (by omega) ?_) ?_
        · obtain ⟨k, hk⟩ : ∃ k, strictM P c = k + 1 := ⟨strictM P c - 1, by omega⟩
          rw [hk] at hw1 ⊢
          simpa using hw1
        walk_at "gg"
        have k79 : Tk H7 H9 := (Same.tk s8).trans k89
        have k47 : Same H4 H7 := s5.trans (s6.trans s7)
        have hwh : plugs (stk ++ [(c, strictM P c)]) (sub c (strictM P c)) = plugs stk c := by
          rw [plugs_snoc]
          congr 1
          have := hh1.again (sub c (strictM P c)) (sub c (strictM P c))
          clear this
          cases c with
          | one k a => rfl
          | whn a b d => rfl
          | two k a b =>
            show (if strictM P (.two k a b) = 1 then Part.two k (sub (.two k a b) (strictM P (.two k a b))) b else Part.two k a (sub (.two k a b) (strictM P (.two k a b)))) = _
            by_cases h1 : strictM P (.two k a b) = 1
            · rw [if_pos h1, h1]; rfl
            · rw [if_neg h1]
              show Part.two k a (if strictM P (.two k a b) = 1 then a else b) = _
              rw [if_neg h1]
          | _ => exact absurd rfl h0
        refine ⟨_, ?_, w1, sub c (strictM P c), _, stk ++ [(c, strictM P c)], ws, _, _, _, _, rfl, e9, ?_, ?_, tw1.mono k79, ?_, hwl2, ?_, ?_, c9 _ _ hwf (s8 _ _ (k47 _ _ ew4)), rfl, k4 fun b o h1 h2 h => c9 _ _ h2 (s8 _ _ (k47 _ _ h))⟩
        · have e' : ¬ (c.worth P = true) := by rw [e]; decide
          have e'' : ¬ ((sub c (strictM P c)).worth P = true) := by rw [hs4]; decide
          rw [if_neg e', if_neg e'']; omega
        · rw [List.map_append]
          exact Tps.append (ts4.mono ((Same.tk k47).trans k79)) (.one (.tup (k89 _ _ e8) (.cons (Tp.mono (H := H7) k79 tc7) (.one (.int _)))))
        · intro y hy
          rcases List.mem_append.mp hy with h | h
          · exact hhot y h
          · rw [List.mem_singleton] at h; subst h; exact hh1
        · rw [hwh]; exact hws
        · rw [hwh]; exact hwt2
        · rw [hwh]; exact hrun

/-! ### what is told of a run -/
def Part.told (p : Part) : PyData := match p with
  | .num n => .tuple [.str "number", .int n]
  | .two .pair _ _ => .tuple [.str "pair"]
  | q => match q.head with
    | .fn f => .tuple [.str "function", .str f, .int q.given.length]
    | _ => .tuple []
def Res.told : Res → PyData
  | .worth p => p.told
  | .fault w => .tuple [.str "fault", .str w]
  | .more => .tuple [.str "more"]
theorem told_fn {p : Part} {f : Str} (h : p.head = .fn f) : p.told = .tuple [.str "function", .str f, .int p.given.length] := by
  cases p with
  | num n => cases h
  | two k a b =>
    cases k with
    | pair => cases h
    | give => show (match (Part.two .give a b).head with | .fn f => _ | _ => _) = _; rw [h]
    | _ => cases h
  | fn g => cases h; rfl
  | _ => cases h
theorem head_of_w {P : Prog} {p : Part} (h : p.worth P = true) (hn : p.word ∉ [("number" : Str), "pair"]) : ∃ f, p.head = .fn f := by
  unfold Part.worth at h
  rw [decide_eq_false hn, Bool.false_or] at h
  split at h
  · rename_i f e; exact ⟨f, e⟩
  · cases h
def spShown : Sp := fun vs H Q _ => ∃ (v : V) (P : Prog) (p : Part), vs = [v] ∧ Tp H v p.data ∧ p.worth P = true ∧ p.sd P.names [] ∧ p.deep ≤ 90000 ∧ ∀ (t : Addr) (H' : Hp), Tp H' (.ref t) p.told → Same H H' → Q (.ref t) H'
theorem pure_shown {K : PySem.W.Frag} {w : World} : PureOk 1 spShown (t_shown K w spSpineB) 3 := by
  refine ⟨fun vs H Q E ⟨_, _, _, e, _⟩ => by rw [e]; rfl, ?_⟩
  rintro vs H Q E ⟨v, P, p, rfl, t, hw, hsd, hd, q⟩
  show t_shown K w _ _ [some v, none, none] H
  unfold t_shown
  have hwp := worth_pre hsd hd
  obtain ⟨a, xs, rfl, ea, tx⟩ := t.part
  walk_at "gg"
  by_cases h1 : p.word = "number"
  · refine g_T (decide_eq_true h1) ?_
    obtain ⟨n, rfl⟩ := word_num h1
    obtain ⟨_, e1, en⟩ := t.num
    cases e1
    clear ea
    walk_at "gg"
    exact q _ _ (.tup (by walk_at "at") (.cons (.str _) (.one (.int _)))) (by walk_at "same")
  · refine g_F (decide_eq_false h1) ?_
    walk_at "gg"
    by_cases h2 : p.word = "pair"
    · refine g_T (decide_eq_true h2) ?_
      obtain ⟨x, y, rfl⟩ := word_pair h2
      walk_at "gg"
      exact q _ _ (.tup (by walk_at "at") (.one (.str _))) (by walk_at "same")
    · refine g_F (decide_eq_false h2) ?_
      obtain ⟨f, hf⟩ := head_of_w hw (by simp only [List.mem_cons, List.not_mem_nil, or_false, not_or]; exact ⟨h1, h2⟩)
      rw [told_fn hf] at q
      walk_at "gg"
      refine ⟨_, p, rfl, t, hwp.2, fun a2 l2 u2 us2 H2 ea2 tu2 el2 tus2 s2 => ?_⟩
      obtain ⟨a3, x3, rfl, ea3, tx3⟩ := tu2.part
      rw [hf] at ea3 tx3
      have tx3' : Tps H2 x3 [.str f] := tx3
      obtain ⟨y, r, rfl, ty, hr⟩ := tx3'.cons_inv
      rw [hr.nil_inv, ty.str_inv] at ea3
      walk_at "gg"
      refine q _ _ (.tup (by walk_at "at") (.cons (.str _) (.cons (.str _) (.one ?_)))) (by walk_at "same")
      rw [tus2.length, List.length_map]
      exact .int _
theorem runM_snd {P : Prog} (hf : P.fine) : ∀ (n : Nat) {p : Part}, p.sd P.names [] → ∀ {q : Part}, (runM P n p).1 = .worth q → q.sd P.names [] ∧ q.worth P = true ∧ q.wt ≤ p.wt + 33 * (runM P n p).2.length := by
  intro n
  induction n with
  | zero =>
    intro p hp q h
    cases hw : p.worth P with
    | true => rw [runM_worth hw] at h ⊢; cases h; exact ⟨hp, hw, Nat.le_refl _⟩
    | false => cases e : stepM P p with
      | fault w => rw [runM_fault hw e] at h; cases h
      | went w q => rw [runM_more hw e] at h; cases h
  | succ n ih =>
    intro p hp q h
    cases hw : p.worth P with
    | true => rw [runM_worth hw] at h ⊢; cases h; exact ⟨hp, hw, Nat.le_refl _⟩
    | false => cases e : stepM P p with
      | fault w => rw [runM_fault hw e] at h; cases h
      | went w z =>
        rw [runM_step hw e] at h ⊢
        have hs := stepM_snd hf hp hw
        rw [e] at hs
        obtain ⟨h1, h2, h3⟩ := ih hs.1 h
        have := hs.2
        refine ⟨h1, h2, ?_⟩
        show _ ≤ p.wt + 33 * ((runM P n z).2.length + 1)
        omega
def spLed : Sp := fun vs H Q _ => ∃ (v v' : V) (P : Prog) (p : Part) (n : Nat), vs = [v', v, .int n] ∧ Tp H v' P.data ∧ P.fine ∧ Tp H v p.data ∧ p.sd P.names [] ∧ p.wt ≤ 30000 ∧ n ≤ 401 ∧
  ∀ (t wl : Addr) (x : V) (H' : Hp), H' t = some (.tup [x, .ref wl]) → Tp H' x (runM P n p).1.told → H wl = none → H' wl = some (.lst ((runM P n p).2.map V.str)) → Same H H' → Q (.ref t) H'
theorem pure_led {K : PySem.W.Frag} {w : World} : PureOk 3 spLed (t_led K w spCome spShown) 6 := by
  refine ⟨fun vs H Q E ⟨_, _, _, _, _, e, _⟩ => by rw [e]; rfl, ?_⟩
  rintro vs H Q E ⟨v, v', P, p, n, rfl, tP, hfine, t, hsd, hwt, hn, q⟩
  show t_led K w _ _ _ [some v', some v, some (.int n), none, none, none] H
  unfold t_led
  walk_at "gg"
  refine ⟨_, _, P, p, n, rfl, tP, hfine, t, hsd, hwt, hn, fun t1 wl x H1 e1 r1 hwl ew s1 => ?_⟩
  have hlen := runM_len P n p
  cases er : (runM P n p).1 with
  | worth p' =>
    obtain ⟨h1, h2, h3⟩ := runM_snd hfine n hsd er
    rw [er] at e1 r1 q
    have e1' : H1 t1 = some (.tup [.str "worth", x, .ref wl]) := e1
    have r1' : Tp H1 x p'.data := r1
    clear e1 r1
    walk_at "gg"
    refine ⟨x, P, p', rfl, r1', h2, h1, by have := p'.wt_deep; omega, fun t2 H2 tt s2 => ?_⟩
    walk_at "gg"
    exact q _ wl _ _ (by walk_at "at") (by show Tp _ _ p'.told; walk_at "tp") hwl (by walk_at "at") (by walk_at "same")
  | fault w =>
    rw [er] at e1 r1 q
    have e1' : H1 t1 = some (.tup [.str "fault", x, .ref wl]) := e1
    have r1' : x = .str w := r1
    subst r1'
    clear e1 r1
    walk_at "gg"
    exact q _ wl _ _ (by walk_at "at") (by show Tp _ _ (.tuple [.str "fault", .str w]); walk_at "tp") hwl (by walk_at "at") (by walk_at "same")
  | more =>
    rw [er] at e1 r1 q
    have e1' : H1 t1 = some (.tup [.str "more", x, .ref wl]) := e1
    clear e1 r1
    walk_at "gg"
    exact q _ wl _ _ (by walk_at "at") (by show Tp _ _ (.tuple [.str "more"]); walk_at "tp") hwl (by walk_at "at") (by walk_at "same")

/-! ### the law's machine, plainly: parts with what their names stand for -/
mutual
/-- names known, functions known, no let's name known ahead of it -/
def Part.ms (fs : List Str) : (Str → Prop) → Part → Prop
  | _, .num n => n.natAbs < 10 ^ 60
  | sc, .name x => sc x
  | _, .fn f => f ∈ fs
  | sc, .one _ a => a.ms fs sc
  | sc, .two _ a b => a.ms fs sc ∧ b.ms fs sc
  | sc, .whn a b c => a.ms fs sc ∧ b.ms fs sc ∧ c.ms fs sc
  | sc, .letp r a => r.names.Nodup ∧ (∀ x ∈ r.names, ¬ sc x) ∧ r.ms fs (fun x => x ∈ r.names ∨ sc x) ∧ a.ms fs (fun x => x ∈ r.names ∨ sc x)
  | _, .shut _ => False
def Rows.ms (fs : List Str) : (Str → Prop) → Rows → Prop
  | _, .nil => True
  | sc, .cons _ a r => a.ms fs sc ∧ r.ms fs sc
end
def Rows.row : Rows → Str → Option Part
  | .nil, _ => none
  | .cons x a r, y => if y = x then some a else r.row y
theorem Rows.row_none : ∀ {r : Rows} {y : Str}, y ∉ r.names → r.row y = none
  | .nil, _, _ => rfl
  | .cons x a r, y, h => by
    have h' : ¬ (y = x ∨ y ∈ r.names) := fun z => h (by rcases z with z | z <;> simp [Rows.names, z])
    show (if y = x then _ else r.row y) = none
    rw [if_neg (fun z => h' (.inl z)), Rows.row_none (fun z => h' (.inr z))]
theorem Rows.row_some : ∀ {r : Rows} {y : Str}, y ∈ r.names → ∃ p, r.row y = some p
  | .cons x a r, y, h => by
    show ∃ p, (if y = x then _ else r.row y) = some p
    by_cases e : y = x
    · exact ⟨a, by rw [if_pos e]⟩
    · rw [if_neg e]
      refine Rows.row_some (r := r) ?_
      have h' : y ∈ x :: r.names := h
      rw [List.mem_cons] at h'
      exact h'.resolve_left e
theorem Rows.row_mem : ∀ {r : Rows} {y : Str} {p : Part}, r.row y = some p → y ∈ r.names ∧ (y, p) ∈ r.list
  | .cons x a r, y, p, h => by
    have h' : (if y = x then some a else r.row y) = some p := h
    split at h'
    · rename_i e
      cases h'
      subst e
      exact ⟨by simp [Rows.names], List.mem_cons_self⟩
    · obtain ⟨h1, h2⟩ := Rows.row_mem h'
      exact ⟨List.mem_cons_of_mem _ h1, List.mem_cons_of_mem _ h2⟩
theorem Rows.row_put (E : Str → Option Part) : ∀ (r : Rows) (y : Str), (r.put E).row y = (r.row y).map (·.put E)
  | .nil, _ => rfl
  | .cons x a r, y => by
    show (if y = x then _ else (r.put E).row y) = (if y = x then some a else r.row y).map _
    rw [Rows.row_put E r y]
    split <;> rfl
theorem Rows.row_ms {fs : List Str} {sc : Str → Prop} : ∀ {r : Rows} {y : Str} {p : Part}, r.ms fs sc → r.row y = some p → p.ms fs sc
  | .cons x a r, y, p, h, e => by
    have h' : (if y = x then some a else r.row y) = some p := e
    split at h'
    · cases h'; exact h.1
    · exact Rows.row_ms h.2 h'
theorem Rows.row_size : ∀ {r : Rows} {y : Str} {p : Part}, r.row y = some p → p.size ≤ r.size
  | .cons x a r, y, p, e => by
    have h' : (if y = x then some a else r.row y) = some p := e
    show p.size ≤ a.size + r.size
    split at h'
    · cases h'; omega
    · have := Rows.row_size h'; omega
theorem Rows.names_size : ∀ r : Rows, r.names.length ≤ r.size
  | .nil => Nat.le_refl _
  | .cons x a r => by
    have h1 := a.size_pos
    have h2 := r.names_size
    show r.names.length + 1 ≤ a.size + r.size
    omega
theorem Rows.row_size2 : ∀ {r : Rows} {y : Str} {p : Part}, r.row y = some p → r.names.length + p.size ≤ r.size + 1
  | .cons x a r, y, p, e => by
    have h' : (if y = x then some a else r.row y) = some p := e
    show r.names.length + 1 + p.size ≤ a.size + r.size + 1
    have h1 := a.size_pos
    have h2 := r.names_size
    split at h'
    · cases h'; omega
    · have := Rows.row_size2 h'; omega
theorem envG_no : ∀ (l : List (Str × Part)) (env : Str → Option Part) (x : Str), x ∉ l.map (·.1) → envG env l x = env x
  | [], env, x, _ => rfl
  | p :: r, env, x, h => by
    rw [List.map_cons, List.mem_cons, not_or] at h
    show envG _ r x = _
    rw [envG_no r _ x h.2, if_neg h.1]
theorem rowsG_get (g : Part → Part) : ∀ (r : Rows) (env : Str → Option Part) (x : Str), r.names.Nodup → envG env (r.list.map fun q => (q.1, g q.2)) x = match r.row x with | some p => some (g p) | none => env x
  | .nil, env, x, _ => rfl
  | .cons y a r, env, x, h => by
    have h' : (y :: r.names).Nodup := h
    rw [List.nodup_cons] at h'
    show envG (fun z => if z = y then some (g a) else env z) (r.list.map _) x = match (if x = y then some a else r.row x) with | some p => some (g p) | none => env x
    rw [rowsG_get g r _ x h'.2]
    by_cases e : x = y
    · subst e
      rw [Rows.row_none h'.1, if_pos rfl, if_pos rfl]
    · rw [if_neg e, if_neg e]
theorem rowsEnv_get {r : Rows} (h : r.names.Nodup) (x : Str) : rowsEnv r x = (r.row x).map (.letp r) := by
  unfold rowsEnv envL
  rw [rowsG_get (.letp r) r _ x h]
  cases r.row x <;> rfl
mutual
/-- one table put in behind another -/
theorem Part.put_put {E F G : Str → Option Part} (h : ∀ x, G x = match E x with | some q => some q | none => F x) : ∀ p : Part, (p.put E).put F = p.put G
  | .num _ => rfl
  | .fn _ => rfl
  | .shut _ => rfl
  | .name x => by
    have e := h x
    show Part.put F (match E x with | some q => .shut q | none => .name x) = match G x with | some q => .shut q | none => .name x
    rw [e]
    cases E x with
    | some q => rfl
    | none => rfl
  | .one k a => by show Part.one k _ = Part.one k _; rw [Part.put_put h a]
  | .two k a b => by show Part.two k _ _ = Part.two k _ _; rw [Part.put_put h a, Part.put_put h b]
  | .whn a b c => by show Part.whn _ _ _ = Part.whn _ _ _; rw [Part.put_put h a, Part.put_put h b, Part.put_put h c]
  | .letp r a => by show Part.letp _ _ = Part.letp _ _; rw [Rows.put_put h r, Part.put_put h a]
theorem Rows.put_put {E F G : Str → Option Part} (h : ∀ x, G x = match E x with | some q => some q | none => F x) : ∀ r : Rows, (r.put E).put F = r.put G
  | .nil => rfl
  | .cons x a r => by show Rows.cons _ _ _ = Rows.cons _ _ _; rw [Part.put_put h a, Rows.put_put h r]
end
mutual
theorem Part.put_none : ∀ p : Part, p.put (fun _ => none) = p
  | .num _ => rfl
  | .fn _ => rfl
  | .shut _ => rfl
  | .name _ => rfl
  | .one k a => by show Part.one k _ = _; rw [Part.put_none a]
  | .two k a b => by show Part.two k _ _ = _; rw [Part.put_none a, Part.put_none b]
  | .whn a b c => by show Part.whn _ _ _ = _; rw [Part.put_none a, Part.put_none b, Part.put_none c]
  | .letp r a => by show Part.letp _ _ = _; rw [Rows.put_none r, Part.put_none a]
theorem Rows.put_none : ∀ r : Rows, r.put (fun _ => none) = r
  | .nil => rfl
  | .cons x a r => by show Rows.cons _ _ _ = _; rw [Part.put_none a, Rows.put_none r]
end
/-- what names stand for: closed things by name, a let's rows upon what was known -/
inductive GEnv
  | nil | bind (x : Str) (p : Part) (e rest : GEnv) | rows (r : Rows) (o : GEnv)
def GEnv.look : GEnv → Str → Option (Bool × Part × GEnv)
  | .nil, _ => none
  | .bind x p e rest, y => if y = x then some (false, p, e) else rest.look y
  | .rows r o, y => match r.row y with
    | some p => some (true, p, .rows r o)
    | none => o.look y
def GEnv.env : GEnv → Str → Option Part
  | .nil => fun _ => none
  | .bind x p e rest => fun y => if y = x then some (p.put e.env) else rest.env y
  | .rows r o => fun y => match r.row y with
    | some p => some (.letp (r.put o.env) (p.put o.env))
    | none => o.env y
def GEnv.dom : GEnv → Str → Prop
  | .nil => fun _ => False
  | .bind x _ _ rest => fun y => y = x ∨ rest.dom y
  | .rows r o => fun y => y ∈ r.names ∨ o.dom y
def GEnv.wid : GEnv → Nat
  | .nil => 0
  | .bind _ _ _ rest => 1 + rest.wid
  | .rows r o => r.names.length + o.wid
def GEnv.good (fs : List Str) : GEnv → Prop
  | .nil => True
  | .bind _ p e rest => p.ms fs e.dom ∧ e.wid + p.size ≤ 64 ∧ e.good fs ∧ rest.good fs
  | .rows r o => o.good fs ∧ r.names.Nodup ∧ (∀ x ∈ r.names, ¬ o.dom x) ∧ r.ms fs (GEnv.dom (.rows r o)) ∧ o.wid + r.size ≤ 63
theorem GEnv.look_dom : ∀ {e : GEnv} {x : Str}, e.dom x → ∃ q, e.look x = some q
  | .bind y p e rest, x, h => by
    show ∃ q, (if x = y then _ else rest.look x) = some q
    by_cases hx : x = y
    · exact ⟨_, by rw [if_pos hx]⟩
    · rw [if_neg hx]
      exact GEnv.look_dom (e := rest) (Or.resolve_left h hx)
  | .rows r o, x, h => by
    show ∃ q, (match r.row x with | some p => _ | none => o.look x) = some q
    by_cases hx : x ∈ r.names
    · obtain ⟨p, hp⟩ := Rows.row_some hx
      exact ⟨_, by rw [hp]⟩
    · rw [Rows.row_none hx]
      exact GEnv.look_dom (e := o) (Or.resolve_left h hx)
theorem GEnv.env_none : ∀ {e : GEnv} {x : Str}, ¬ e.dom x → e.env x = none
  | .nil, _, _ => rfl
  | .bind y p e rest, x, h => by
    show (if x = y then _ else rest.env x) = none
    rw [if_neg fun z => h (.inl z), GEnv.env_none (e := rest) fun z => h (.inr z)]
  | .rows r o, x, h => by
    show (match r.row x with | some p => _ | none => o.env x) = none
    rw [Rows.row_none fun z => h (.inl z), GEnv.env_none (e := o) fun z => h (.inr z)]
theorem GEnv.look_good {fs : List Str} : ∀ {e : GEnv} {x : Str} {b : Bool} {p : Part} {e' : GEnv}, e.good fs → e.look x = some (b, p, e') → p.ms fs e'.dom ∧ e'.wid + p.size ≤ 64 ∧ e'.good fs
  | .bind y p0 e0 rest, x, b, p, e', h, hl => by
    have hl' : (if x = y then some (false, p0, e0) else rest.look x) = some (b, p, e') := hl
    split at hl'
    · cases hl'; exact ⟨h.1, h.2.1, h.2.2.1⟩
    · exact GEnv.look_good h.2.2.2 hl'
  | .rows r o, x, b, p, e', h, hl => by
    have hl' : (match r.row x with | some p => some (true, p, GEnv.rows r o) | none => o.look x) = some (b, p, e') := hl
    split at hl'
    · rename_i q hq
      cases hl'
      refine ⟨Rows.row_ms h.2.2.2.1 hq, ?_, h⟩
      have h1 := Rows.row_size2 hq
      have h2 := h.2.2.2.2
      show r.names.length + o.wid + p.size ≤ 64
      omega
    · exact GEnv.look_good h.1 hl'
/-- opened: a plain thing, or a let again -/
theorem GEnv.look_env {fs : List Str} : ∀ {e : GEnv} {x : Str} {b : Bool} {p : Part} {e' : GEnv}, e.good fs → e.look x = some (b, p, e') →
    (b = false ∧ e.env x = some (p.put e'.env)) ∨ (b = true ∧ ∃ r o, e' = .rows r o ∧ e'.good fs ∧ e.env x = some (.letp (r.put o.env) (p.put o.env)))
  | .bind y p0 e0 rest, x, b, p, e', h, hl => by
    have hl' : (if x = y then some (false, p0, e0) else rest.look x) = some (b, p, e') := hl
    have he : (GEnv.bind y p0 e0 rest).env x = if x = y then some (p0.put e0.env) else rest.env x := rfl
    rw [he]
    split at hl'
    · rename_i hx
      cases hl'; exact .inl ⟨rfl, by rw [if_pos hx]⟩
    · rename_i hx
      rw [if_neg hx]
      exact GEnv.look_env h.2.2.2 hl'
  | .rows r o, x, b, p, e', h, hl => by
    have hl' : (match r.row x with | some p => some (true, p, GEnv.rows r o) | none => o.look x) = some (b, p, e') := hl
    have he : (GEnv.rows r o).env x = match r.row x with | some p => some (.letp (r.put o.env) (p.put o.env)) | none => o.env x := rfl
    rw [he]
    split at hl'
    · rename_i q hq
      cases hl'
      exact .inr ⟨rfl, r, o, rfl, h, rfl⟩
    · exact GEnv.look_env h.1 hl'
/-- a let stepped -/
theorem GEnv.let_put {r : Rows} {o : GEnv} (hn : r.names.Nodup) (hd : ∀ x ∈ r.names, ¬ o.dom x) (a : Part) : (a.put o.env).put (rowsEnv (r.put o.env)) = a.put (GEnv.rows r o).env := by
  refine Part.put_put (fun x => ?_) a
  show (match r.row x with | some p => some (Part.letp (r.put o.env) (Part.put o.env p)) | none => o.env x) = _
  rw [rowsEnv_get (by rw [Rows.put_names]; exact hn), Rows.row_put]
  by_cases hx : x ∈ r.names
  · obtain ⟨p, hp⟩ := Rows.row_some hx
    rw [hp, GEnv.env_none (hd x hx)]
    rfl
  · rw [Rows.row_none hx]
    cases o.env x <;> rfl

/-! ### the law's machine, plainly: frames, worths, one move each -/
structure Clo where
  p : Part
  e : GEnv
def Clo.whole (c : Clo) : Part := c.p.put c.e.env
def Clo.good (fs : List Str) (c : Clo) : Prop := c.p.ms fs c.e.dom ∧ c.e.wid + c.p.size ≤ 64 ∧ c.e.good fs
inductive Wth
  | num (n : Int) | fn (f : Str) (gs : List Clo) | pair (a b : Part) (e : GEnv)
def gives (h : Part) (l : List Part) : Part := l.foldl (fun h g => .two .give h g) h
theorem gives_head : ∀ (l : List Part) (h : Part), (gives h l).head = h.head ∧ (gives h l).given = h.given ++ l
  | [], h => ⟨rfl, by simp [gives]⟩
  | g :: l, h => by
    obtain ⟨h1, h2⟩ := gives_head l (.two .give h g)
    refine ⟨h1, ?_⟩
    show (gives (.two .give h g) l).given = _
    rw [h2]
    show (h.given ++ [g]) ++ l = _
    rw [List.append_assoc]; rfl
def Wth.part : Wth → Part
  | .num n => .num n
  | .fn f gs => gives (.fn f) (gs.map Clo.whole)
  | .pair a b e => .two .pair (a.put e.env) (b.put e.env)
def Wth.good (P : Prog) : Wth → Prop
  | .num n => n.natAbs < 10 ^ 60
  | .fn f gs => f ∈ P.names ∧ gs.length < P.wantsOf f ∧ ∀ g ∈ gs, g.good P.names
  | .pair a b e => (Clo.mk a e).good P.names ∧ (Clo.mk b e).good P.names
theorem Wth.fn_head (f : Str) (gs : List Clo) : (Wth.fn f gs).part.head = .fn f ∧ (Wth.fn f gs).part.given = gs.map Clo.whole := by
  obtain ⟨h1, h2⟩ := gives_head (gs.map Clo.whole) (.fn f)
  exact ⟨h1, h2⟩
theorem Wth.worth {P : Prog} : ∀ {w : Wth}, w.good P → w.part.worth P = true
  | .num n, _ => by
    show (decide (("number" : Str) ∈ [("number" : Str), "pair"]) || _) = true
    rw [decide_eq_true (by simp)]; rfl
  | .pair a b e, _ => by
    show (decide (("pair" : Str) ∈ [("number" : Str), "pair"]) || _) = true
    rw [decide_eq_true (by simp)]; rfl
  | .fn f gs, h => by
    obtain ⟨h1, h2⟩ := Wth.fn_head f gs
    rw [worth_fn h1, h2, List.length_map, decide_eq_true h.2.1]
inductive Frm
  | part (p : Part) (e : GEnv) | second (k : K2) (n : Int)
def nm0 : Part := .name (.mk #[])
def Frm.stk : Frm → Part × Nat
  | .part p e => (plug (p.put e.env) 1 nm0, 1)
  | .second k n => (.two k (.num n) nm0, 2)
/-- its first part is to be stepped -/
def Part.firsts : Part → Prop
  | .one _ _ => True
  | .whn _ _ _ => True
  | .two k _ _ => k ≠ .pair
  | _ => False
def Frm.good (P : Prog) : Frm → Prop
  | .part p e => (Clo.mk p e).good P.names ∧ p.firsts
  | .second k n => k.op = true ∧ n.natAbs < 10 ^ 60
theorem nm0_no {P : Prog} : nm0.worth P = false := word_no (show ("name" : Str) ∉ [("give" : Str), "fun", "number", "pair"] by decide)
theorem num_worth {P : Prog} (n : Int) : (Part.num n).worth P = true := by
  show (decide (("number" : Str) ∈ [("number" : Str), "pair"]) || _) = true
  rw [decide_eq_true (by simp)]; rfl
theorem strict_op {P : Prog} {k : K2} (h : k.op = true) (a z : Part) : strictM P (.two k a z) = if a.worth P = true then (if a.word = "number" then (if z.worth P = true then 0 else 2) else 0) else 1 := by cases k <;> first | rfl | cases h
theorem strict_first {P : Prog} {k : K2} (h : k ≠ .pair) {a : Part} (ha : a.worth P = false) (b : Part) : strictM P (.two k a b) = 1 := by
  cases k with
  | pair => exact absurd rfl h
  | give => show (if a.worth P = true then 0 else 1) = 1; rw [ha]; rfl
  | _ => show (if a.worth P = true then _ else 1) = 1; rw [ha]; rfl
theorem Frm.hot {P : Prog} : ∀ {f : Frm}, f.good P → Hot P f.stk.1 f.stk.2
  | .part p e, h => by
    have key : strictM P (plug (p.put e.env) 1 nm0) = 1 := by
      obtain ⟨_, hp⟩ := h
      cases p with
      | one k a => show (if nm0.worth P = true then 0 else 1) = 1; rw [nm0_no]; rfl
      | whn a b c => show (if nm0.worth P = true then 0 else 1) = 1; rw [nm0_no]; rfl
      | two k a b => exact strict_first hp nm0_no _
      | _ => exact hp.elim
    have := strict_hot (P := P) (p := plug (p.put e.env) 1 nm0) (by rw [key]; decide)
    rw [key] at this
    exact this
  | .second k n, h => by
    have key : strictM P (.two k (.num n) nm0) = 2 := by
      rw [strict_op h.1, num_worth, nm0_no]; rfl
    have := strict_hot (P := P) (p := .two k (.num n) nm0) (by rw [key]; decide)
    rw [key] at this
    exact this
def wholes (fr : List Frm) (c : Part) : Part := plugs (fr.map Frm.stk) c
theorem hots {P : Prog} {fr : List Frm} (h : ∀ f ∈ fr, f.good P) : ∀ x ∈ fr.map Frm.stk, Hot P x.1 x.2 := by
  intro x hx
  obtain ⟨f, hf, rfl⟩ := List.mem_map.mp hx
  exact Frm.hot (h f hf)
theorem wholes_snoc (fr : List Frm) (f : Frm) (c : Part) : wholes (fr ++ [f]) c = wholes fr (plug f.stk.1 f.stk.2 c) := by
  unfold wholes
  rw [List.map_append]
  exact plugs_snoc _ _ _ _
/-- the words so far are the run's, and from here it goes on -/
def Sim (P : Prog) (p : Part) (most : Nat) (c : Part) (ws : List Str) : Prop :=
  (ws.length ≤ most ∧ runM P most p = ((runM P (most - ws.length) c).1, ws ++ (runM P (most - ws.length) c).2)) ∨ (most < ws.length ∧ runM P most p = (.more, ws.take most))
section
variable {P : Prog} {p c c' : Part} {most : Nat} {ws : List Str} {fr : List Frm}
theorem Sim.start : Sim P p most p [] := .inl ⟨Nat.zero_le _, rfl⟩
theorem Sim.word {w : Str} (h : Sim P p most c ws) (hc : c.worth P = false) (e : stepM P c = .went w c') : Sim P p most c' (ws ++ [w]) := by
  rcases h with ⟨h1, h2⟩ | ⟨h1, h2⟩
  · by_cases hm : ws.length = most
    · refine .inr ⟨by rw [List.length_append, List.length_singleton]; omega, ?_⟩
      rw [h2, hm, Nat.sub_self, runM_more hc e, List.append_nil, List.take_append_of_le_length (by omega), List.take_of_length_le (by omega)]
    · refine .inl ⟨by rw [List.length_append, List.length_singleton]; omega, ?_⟩
      have e1 : most - ws.length = (most - (ws ++ [w]).length) + 1 := by rw [List.length_append, List.length_singleton]; omega
      rw [h2, e1, runM_step hc e]
      simp
  · exact .inr ⟨by rw [List.length_append]; omega, by rw [h2, List.take_append_of_le_length (by omega)]⟩
theorem Sim.step (hf : ∀ f ∈ fr, f.good P) {w : Str} (h : Sim P p most (wholes fr c) ws) (hc : c.worth P = false) (e : stepM P c = .went w c') : Sim P p most (wholes fr c') (ws ++ [w]) := by
  obtain ⟨h1, h2⟩ := plugs_step (hots hf) hc
  exact h.word h2 (by show stepM P (plugs _ c) = _; rw [h1, e]; rfl)
theorem Sim.fault (hf : ∀ f ∈ fr, f.good P) {w : Str} (h : Sim P p most (wholes fr c) ws) (hm : ws.length ≤ most) (hc : c.worth P = false) (e : stepM P c = .fault w) : runM P most p = (.fault w, ws) := by
  obtain ⟨h1, h2⟩ := plugs_step (hots hf) hc
  rcases h with ⟨_, h⟩ | ⟨h', _⟩
  · unfold wholes at h
    rw [h, runM_fault h2 (by rw [h1, e]; rfl), List.append_nil]
  · omega
theorem Sim.worth (h : Sim P p most c ws) (hm : ws.length ≤ most) (hc : c.worth P = true) : runM P most p = (.worth c, ws) := by
  rcases h with ⟨_, h⟩ | ⟨h', _⟩
  · rw [h, runM_worth hc, List.append_nil]
  · omega
theorem Sim.more (h : Sim P p most c ws) (hm : most < ws.length) : runM P most p = (.more, ws.take most) := by
  rcases h with ⟨h', _⟩ | ⟨_, h⟩
  · omega
  · exact h
end

/-! ### the moves of the law's machine, plainly -/
def callE : List (Str × Clo) → GEnv → GEnv
  | [], e => e
  | q :: r, e => callE r (.bind q.1 q.2.p q.2.e e)
theorem callE_env : ∀ (l : List (Str × Clo)) (e : GEnv), (callE l e).env = envG e.env (l.map fun q => (q.1, q.2.whole))
  | [], _ => rfl
  | q :: r, e => callE_env r _
theorem callE_dom : ∀ (l : List (Str × Clo)) (e : GEnv) (x : Str), (callE l e).dom x ↔ x ∈ l.map (·.1) ∨ e.dom x
  | [], e, x => by show e.dom x ↔ x ∈ ([] : List Str) ∨ _; simp
  | q :: r, e, x => by
    show (callE r (.bind q.1 q.2.p q.2.e e)).dom x ↔ _
    rw [callE_dom r _ x]
    show x ∈ r.map _ ∨ (x = q.1 ∨ e.dom x) ↔ _
    rw [List.map_cons, List.mem_cons]
    constructor
    · rintro (h | h | h)
      · exact .inl (.inr h)
      · exact .inl (.inl h)
      · exact .inr h
    · rintro ((h | h) | h)
      · exact .inr (.inl h)
      · exact .inl h
      · exact .inr (.inr h)
theorem callE_wid : ∀ (l : List (Str × Clo)) (e : GEnv), (callE l e).wid = l.length + e.wid
  | [], e => (Nat.zero_add _).symm
  | q :: r, e => by
    show (callE r (.bind q.1 q.2.p q.2.e e)).wid = r.length + 1 + e.wid
    rw [callE_wid r _]
    show r.length + (1 + e.wid) = _
    omega
theorem callE_good {fs : List Str} : ∀ (l : List (Str × Clo)) (e : GEnv), (∀ q ∈ l, q.2.good fs) → e.good fs → (callE l e).good fs
  | [], _, _, h => h
  | q :: r, e, hl, h => by
    have hq := hl q List.mem_cons_self
    exact callE_good r _ (fun x hx => hl x (List.mem_cons_of_mem _ hx)) ⟨hq.1, hq.2.1, hq.2.2, h⟩
theorem zip_whole (gs : List Clo) : ∀ xs : List Str, (xs.zip gs).map (fun q => (q.1, q.2.whole)) = xs.zip (gs.map Clo.whole) := by
  induction gs with
  | nil => intro xs; cases xs <;> rfl
  | cons g gs ih =>
    intro xs
    cases xs with
    | nil => rfl
    | cons x xs => rw [List.zip_cons_cons, List.map_cons, List.map_cons, List.zip_cons_cons, ih xs]
theorem zip_fst {α β : Type} : ∀ (xs : List α) (ys : List β), xs.length = ys.length → (xs.zip ys).map (·.1) = xs
  | [], _, _ => rfl
  | x :: xs, [], h => by cases h
  | x :: xs, y :: ys, h => by rw [List.zip_cons_cons, List.map_cons, zip_fst xs ys (by simpa using h)]
mutual
theorem Part.ok_ms {fs : List Str} : ∀ {p : Part} {sc : List Str} {S : Str → Prop}, p.ok fs sc → (∀ x, S x ↔ x ∈ sc) → p.rowNames.Nodup → (∀ x ∈ p.rowNames, x ∉ sc) → p.ms fs S
  | .num n, _, _, h, _, _, _ => h
  | .name x, _, _, h, hs, _, _ => (hs x).mpr h.1
  | .fn f, _, _, h, _, _, _ => h.1
  | .one k a, _, _, h, hs, h1, h2 => Part.ok_ms (p := a) h hs h1 h2
  | .two k a b, _, _, h, hs, h1, h2 => by
    have h1' : (a.rowNames ++ b.rowNames).Nodup := h1
    have h2' : ∀ x ∈ a.rowNames ++ b.rowNames, x ∉ _ := h2
    rw [List.nodup_append] at h1'
    exact ⟨Part.ok_ms h.1 hs h1'.1 fun x hx => h2' x (List.mem_append.mpr (.inl hx)), Part.ok_ms h.2 hs h1'.2.1 fun x hx => h2' x (List.mem_append.mpr (.inr hx))⟩
  | .whn a b c, _, _, h, hs, h1, h2 => by
    have h1' : (a.rowNames ++ (b.rowNames ++ c.rowNames)).Nodup := h1
    have h2' : ∀ x ∈ a.rowNames ++ (b.rowNames ++ c.rowNames), x ∉ _ := h2
    rw [List.nodup_append, List.nodup_append] at h1'
    refine ⟨Part.ok_ms h.1 hs h1'.1 fun x hx => h2' x ?_, Part.ok_ms h.2.1 hs h1'.2.1.1 fun x hx => h2' x ?_, Part.ok_ms h.2.2 hs h1'.2.1.2.1 fun x hx => h2' x ?_⟩
    all_goals simp [hx]
  | .letp r a, sc, S, h, hs, h1, h2 => by
    have h1' : (r.names ++ (r.rowNames ++ a.rowNames)).Nodup := h1
    have h2' : ∀ x ∈ r.names ++ (r.rowNames ++ a.rowNames), x ∉ sc := h2
    rw [List.nodup_append, List.nodup_append] at h1'
    obtain ⟨n1, ⟨n2, n3, n4⟩, n5⟩ := h1'
    have hs' : ∀ x, (x ∈ r.names ∨ S x) ↔ x ∈ sc ++ r.names := by
      intro x
      rw [List.mem_append, hs x]
      exact Or.comm
    have no : ∀ x ∈ r.rowNames ++ a.rowNames, x ∉ sc ++ r.names := by
      intro x hx hc
      rw [List.mem_append] at hc
      rcases hc with hc | hc
      · exact h2' x (List.mem_append.mpr (.inr hx)) hc
      · exact n5 x hc x hx rfl
    refine ⟨n1, fun x hx hc => h2' x (List.mem_append.mpr (.inl hx)) ((hs x).mp hc), Rows.ok_ms h.2.2.2.1 hs' n2 fun x hx => no x (List.mem_append.mpr (.inl hx)), Part.ok_ms h.2.2.2.2 hs' n3 fun x hx => no x (List.mem_append.mpr (.inr hx))⟩
  | .shut a, _, _, h, _, _, _ => h.elim
theorem Rows.ok_ms {fs : List Str} : ∀ {r : Rows} {sc : List Str} {S : Str → Prop}, r.ok fs sc → (∀ x, S x ↔ x ∈ sc) → r.rowNames.Nodup → (∀ x ∈ r.rowNames, x ∉ sc) → r.ms fs S
  | .nil, _, _, _, _, _, _ => trivial
  | .cons x a r, _, _, h, hs, h1, h2 => by
    have h1' : (a.rowNames ++ r.rowNames).Nodup := h1
    have h2' : ∀ x ∈ a.rowNames ++ r.rowNames, x ∉ _ := h2
    rw [List.nodup_append] at h1'
    exact ⟨Part.ok_ms h.1 hs h1'.1 fun x hx => h2' x (List.mem_append.mpr (.inl hx)), Rows.ok_ms h.2 hs h1'.2.1 fun x hx => h2' x (List.mem_append.mpr (.inr hx))⟩
end
/-- called with all its things -/
theorem call_good {P : Prog} (hf : P.fine) {f : Str} (h : f ∈ P.names) {gs : List Clo} (hg : ∀ g ∈ gs, g.good P.names) (hn : gs.length = P.wantsOf f) : (Clo.mk (P.bodyOf f) (callE ((P.thingsOf f).zip gs) .nil)).good P.names := by
  obtain ⟨j, fn, h1, h2, _, h4, h5, h6⟩ := Prog.fn_of hf h
  have hb := h6.body
  rw [wants_len] at hn
  refine ⟨?_, ?_, callE_good _ _ (fun q hq => hg _ (List.of_mem_zip hq).2) trivial⟩
  case refine_2 =>
    have h7 := hb.size
    have h8 := h6.few
    show (callE _ _).wid + (P.bodyOf f).size ≤ 64
    rw [h4, callE_wid, List.length_zip, h5]
    show min fn.things.length gs.length + 0 + fn.body.size ≤ 64
    omega
  show (P.bodyOf f).ms P.names _
  rw [h4]
  refine Part.ok_ms hb.ok (fun x => ?_) hb.nd fun x hx => (hb.un x hx).2
  show (callE _ _).dom x ↔ _
  rw [callE_dom, zip_fst _ _ hn.symm, h5]
  show (_ ∨ False) ↔ _
  rw [or_false]
theorem call_whole {P : Prog} {f : Str} {gs : List Clo} : (Clo.mk (P.bodyOf f) (callE ((P.thingsOf f).zip gs) .nil)).whole = (P.bodyOf f).put (envL ((P.thingsOf f).zip (gs.map Clo.whole))) := by
  show (P.bodyOf f).put (callE _ _).env = _
  rw [callE_env, zip_whole]
  rfl
section
variable {P : Prog} {p c c' : Part} {most : Nat} {ws : List Str} {fr : List Frm} {e : GEnv}
theorem mv_shut (hf : ∀ f ∈ fr, f.good P) {a : Part} (h : Sim P p most (wholes fr (Clo.mk (.shut a) e).whole) ws) : Sim P p most (wholes fr (Clo.mk a .nil).whole) (ws ++ [("open" : Str)]) := by
  refine h.step hf (word_no (show ("shut" : Str) ∉ [("give" : Str), "fun", "number", "pair"] by decide)) ?_
  show Out.went "open" a = Out.went "open" (a.put (fun _ => none))
  rw [Part.put_none]
theorem mv_name (hf : ∀ f ∈ fr, f.good P) {x : Str} {b : Bool} {q : Part} {e' : GEnv} (he : e.good P.names) (hl : e.look x = some (b, q, e')) (h : Sim P p most (wholes fr (Clo.mk (.name x) e).whole) ws) :
    Sim P p most (wholes fr (Clo.mk q e').whole) (ws ++ (if b = true then [("open" : Str), "let"] else [("open" : Str)])) := by
  have hw : (Clo.mk (.name x) e).whole = match e.env x with | some z => .shut z | none => .name x := rfl
  rcases GEnv.look_env he hl with ⟨rfl, h1⟩ | ⟨rfl, r, o, rfl, hr, h1⟩
  · rw [hw, h1] at h
    exact h.step hf (word_no (show ("shut" : Str) ∉ [("give" : Str), "fun", "number", "pair"] by decide)) rfl
  · rw [hw, h1] at h
    have h2 := h.step hf (word_no (show ("shut" : Str) ∉ [("give" : Str), "fun", "number", "pair"] by decide)) (show stepM P (.shut _) = .went "open" _ from rfl)
    have h3 := h2.step hf (word_no (show ("let" : Str) ∉ [("give" : Str), "fun", "number", "pair"] by decide)) (show stepM P (.letp _ _) = .went "let" _ from rfl)
    rw [GEnv.let_put hr.2.1 hr.2.2.1] at h3
    rw [List.append_assoc] at h3
    exact h3
theorem mv_let (hf : ∀ f ∈ fr, f.good P) {r : Rows} {a : Part} (hg : (Clo.mk (.letp r a) e).good P.names) (h : Sim P p most (wholes fr (Clo.mk (.letp r a) e).whole) ws) :
    Sim P p most (wholes fr (Clo.mk a (.rows r e)).whole) (ws ++ [("let" : Str)]) ∧ (Clo.mk a (.rows r e)).good P.names := by
  obtain ⟨⟨g1, g2, g3, g4⟩, g5, g6⟩ := hg
  have g5' : e.wid + (1 + (r.size + a.size)) ≤ 64 := g5
  have g7 := r.names_size
  refine ⟨h.step hf (word_no (show ("let" : Str) ∉ [("give" : Str), "fun", "number", "pair"] by decide)) ?_, g4, by show r.names.length + e.wid + a.size ≤ 64; omega, g6, g1, g2, g3, by omega⟩
  show Out.went "let" ((a.put e.env).put (rowsEnv (r.put e.env))) = _
  rw [GEnv.let_put g1 g2]
  rfl
theorem mv_call (hf : ∀ f ∈ fr, f.good P) {f : Str} {gs : List Clo} (hc : c.head = .fn f) (hgv : c.given = gs.map Clo.whole) (hn : gs.length = P.wantsOf f) (hs : strictM P c = 0) (ho : ownM P c = callM P c) (h : Sim P p most (wholes fr c) ws) :
    Sim P p most (wholes fr (Clo.mk (P.bodyOf f) (callE ((P.thingsOf f).zip gs) .nil)).whole) (ws ++ [("call" : Str)]) := by
  refine h.step hf ?_ ?_
  · rw [worth_fn hc, hgv, List.length_map]
    exact decide_eq_false (by omega)
  · rw [stepM_eq, if_pos hs, ho, call_whole, ← hgv]
    unfold callM
    rw [hc]
end

/-! ### the moves outward -/
theorem gives_snoc (h : Part) (l : List Part) (g : Part) : gives h (l ++ [g]) = .two .give (gives h l) g := by
  unfold gives
  rw [List.foldl_append]
  rfl
theorem fn_snoc (f : Str) (gs : List Clo) (g : Clo) : (Wth.fn f (gs ++ [g])).part = .two .give (Wth.fn f gs).part g.whole := by
  show gives _ ((gs ++ [g]).map _) = _
  rw [List.map_append]
  exact gives_snoc _ _ _
theorem fn_shape (f : Str) (gs : List Clo) : (Wth.fn f gs).part = .fn f ∨ ∃ a b, (Wth.fn f gs).part = .two .give a b := by
  rcases List.eq_nil_or_concat gs with rfl | ⟨l, g, rfl⟩
  · exact .inl rfl
  · refine .inr ⟨(Wth.fn f l).part, g.whole, ?_⟩
    rw [List.concat_eq_append]
    exact fn_snoc f l g
def Wth.isNum : Wth → Prop
  | .num _ => True
  | _ => False
def Wth.isFn : Wth → Prop
  | .fn _ _ => True
  | _ => False
def Wth.isPair : Wth → Prop
  | .pair _ _ _ => True
  | _ => False
theorem not_num {w : Wth} (h : ¬ w.isNum) : w.part.word ≠ "number" ∧ ∀ n, w.part ≠ .num n := by
  cases w with
  | num n => exact absurd trivial h
  | pair a b e => exact ⟨by show ("pair" : Str) ≠ "number"; decide, fun n z => by cases z⟩
  | fn f gs =>
    rcases fn_shape f gs with e | ⟨a, b, e⟩
    · rw [e]; exact ⟨by show ("fun" : Str) ≠ "number"; decide, fun n z => by cases z⟩
    · rw [e]; exact ⟨by show ("give" : Str) ≠ "number"; decide, fun n z => by cases z⟩
theorem not_pair {w : Wth} (h : ¬ w.isPair) : ∀ a b, w.part ≠ .two .pair a b := by
  intro x y
  cases w with
  | num n => intro z; cases z
  | pair a b e => exact absurd trivial h
  | fn f gs =>
    rcases fn_shape f gs with e | ⟨a, b, e⟩
    · rw [e]; intro z; cases z
    · rw [e]; intro z; cases z
theorem not_fn {w : Wth} (h : ¬ w.isFn) : w.part.head.word ≠ "fun" ∧ ∀ f, w.part.head ≠ .fn f := by
  cases w with
  | num n => exact ⟨by show ("number" : Str) ≠ "fun"; decide, fun n z => by cases z⟩
  | pair a b e => exact ⟨by show ("pair" : Str) ≠ "fun"; decide, fun n z => by cases z⟩
  | fn f gs => exact absurd trivial h
section
variable {P : Prog} {p c c' : Part} {most : Nat} {ws : List Str} {fr : List Frm} {e : GEnv}
theorem give_part (f : Str) (gs : List Clo) (a b : Part) : wholes (fr ++ [.part (.two .give a b) e]) (Wth.fn f gs).part = wholes fr (Wth.fn f (gs ++ [⟨b, e⟩])).part := by
  rw [wholes_snoc, fn_snoc]
  rfl
theorem mv_give (hf : ∀ f ∈ fr, f.good P) {f : Str} {gs : List Clo} {b : Part} (hw : (Wth.fn f gs).good P) (hn : gs.length + 1 = P.wantsOf f) (h : Sim P p most (wholes fr (Wth.fn f (gs ++ [⟨b, e⟩])).part) ws) :
    Sim P p most (wholes fr (Clo.mk (P.bodyOf f) (callE ((P.thingsOf f).zip (gs ++ [⟨b, e⟩])) .nil)).whole) (ws ++ [("call" : Str)]) := by
  refine mv_call hf (Wth.fn_head _ _).1 (Wth.fn_head _ _).2 (by rw [List.length_append]; exact hn) ?_ ?_ h
  · rw [fn_snoc]
    show (if (Wth.fn f gs).part.worth P = true then 0 else 1) = 0
    rw [Wth.worth hw]; rfl
  · rw [fn_snoc]; rfl
theorem mv_fn0 (hf : ∀ f ∈ fr, f.good P) {f : Str} (hn : P.wantsOf f = 0) (h : Sim P p most (wholes fr (Clo.mk (.fn f) e).whole) ws) :
    Sim P p most (wholes fr (Clo.mk (P.bodyOf f) (callE ((P.thingsOf f).zip []) .nil)).whole) (ws ++ [("call" : Str)]) :=
  mv_call (gs := []) hf (c := .fn f) rfl rfl hn.symm rfl rfl h
theorem mv_side (hf : ∀ f ∈ fr, f.good P) {k : K1} {a x y : Part} {e' : GEnv} (h : Sim P p most (wholes (fr ++ [.part (.one k a) e]) (Wth.pair x y e').part) ws) :
    Sim P p most (wholes fr (Clo.mk (match k with | .left => x | .right => y) e').whole) (ws ++ [("side" : Str)]) := by
  rw [wholes_snoc] at h
  have hk : k.word ∉ [("give" : Str), "fun", "number", "pair"] := by cases k <;> decide
  refine Sim.step hf (c := .one k (Wth.pair x y e').part) h (word_no hk) ?_
  have hs : strictM P (.one k (Wth.pair x y e').part) = 0 := by
    show (if (Part.two .pair (x.put e'.env) (y.put e'.env)).worth P = true then 0 else 1) = 0
    rw [worth_np (p := .two .pair _ _) (by simp [Part.word, K2.word])]; rfl
  rw [stepM_eq, if_pos hs]
  cases k <;> rfl
theorem mv_when (hf : ∀ f ∈ fr, f.good P) {a b d : Part} {n : Int} (h : Sim P p most (wholes (fr ++ [.part (.whn a b d) e]) (Wth.num n).part) ws) :
    Sim P p most (wholes fr (Clo.mk (if n = 0 then d else b) e).whole) (ws ++ [("turn" : Str)]) := by
  rw [wholes_snoc] at h
  refine Sim.step hf (c := .whn (.num n) (b.put e.env) (d.put e.env)) h (word_no (show ("when" : Str) ∉ [("give" : Str), "fun", "number", "pair"] by decide)) ?_
  have hs : strictM P (.whn (.num n) (b.put e.env) (d.put e.env)) = 0 := by
    show (if (Part.num n).worth P = true then 0 else 1) = 0
    rw [num_worth]; rfl
  rw [stepM_eq, if_pos hs]
  show Out.went "turn" (if n = 0 then d.put e.env else b.put e.env) = Out.went "turn" ((if n = 0 then d else b).put e.env)
  by_cases hn : n = 0
  · rw [if_pos hn, if_pos hn]
  · rw [if_neg hn, if_neg hn]
theorem op_part {k : K2} {a b : Part} {n : Int} : wholes (fr ++ [.part (.two k a b) e]) (Wth.num n).part = wholes (fr ++ [.second k n]) (Clo.mk b e).whole := by
  rw [wholes_snoc, wholes_snoc]
  rfl
theorem op_word {k : K2} (h : k.op = true) (hp : k ≠ .pair) (a b : Part) : (Part.two k a b).worth P = false := by
  refine word_no (show k.word ∉ [("give" : Str), "fun", "number", "pair"] from ?_)
  cases k <;> first | decide | cases h | exact absurd rfl hp
theorem op_pair {k : K2} (h : k.op = true) : k ≠ .pair := by rintro rfl; cases h
theorem mv_second (hf : ∀ f ∈ fr, f.good P) {k : K2} {m n : Int} (hk : k.op = true) (hs : (reck k n m).natAbs < 10 ^ 60) (h : Sim P p most (wholes (fr ++ [.second k n]) (Wth.num m).part) ws) :
    Sim P p most (wholes fr (Wth.num (reck k n m)).part) (ws ++ [("number" : Str)]) := by
  rw [wholes_snoc] at h
  refine Sim.step hf (c := .two k (.num n) (.num m)) h (op_word hk (op_pair hk) _ _) ?_
  have hst : strictM P (.two k (.num n) (.num m)) = 0 := by rw [strict_op hk, num_worth, num_worth]; rfl
  have ho : ownM P (.two k (.num n) (.num m)) = opM k (.num n) (.num m) := by cases k <;> first | rfl | cases hk
  rw [stepM_eq, if_pos hst, ho]
  show (if _ then _ else _) = _
  rw [if_pos hs]
  rfl
theorem mv_great (hf : ∀ f ∈ fr, f.good P) {k : K2} {m n : Int} (hk : k.op = true) (hs : ¬ (reck k n m).natAbs < 10 ^ 60) (h : Sim P p most (wholes (fr ++ [.second k n]) (Wth.num m).part) ws) (hm : ws.length ≤ most) :
    runM P most p = (.fault "great", ws) := by
  rw [wholes_snoc] at h
  refine Sim.fault hf (c := .two k (.num n) (.num m)) h hm (op_word hk (op_pair hk) _ _) ?_
  have hst : strictM P (.two k (.num n) (.num m)) = 0 := by rw [strict_op hk, num_worth, num_worth]; rfl
  have ho : ownM P (.two k (.num n) (.num m)) = opM k (.num n) (.num m) := by cases k <;> first | rfl | cases hk
  rw [stepM_eq, if_pos hst, ho]
  show (if _ then _ else _) = _
  rw [if_neg hs]
theorem mv_second_no (hf : ∀ f ∈ fr, f.good P) {k : K2} {n : Int} (hk : k.op = true) {w : Wth} (hw : w.good P) (hn : ¬ w.isNum) (h : Sim P p most (wholes (fr ++ [.second k n]) w.part) ws) (hm : ws.length ≤ most) :
    runM P most p = (.fault "number", ws) := by
  rw [wholes_snoc] at h
  refine Sim.fault hf (c := .two k (.num n) w.part) h hm (op_word hk (op_pair hk) _ _) ?_
  have hst : strictM P (.two k (.num n) w.part) = 0 := by rw [strict_op hk, num_worth, Wth.worth hw]; rfl
  have ho : ownM P (.two k (.num n) w.part) = opM k (.num n) w.part := by cases k <;> first | rfl | cases hk
  rw [stepM_eq, if_pos hst, ho, opM_no (.inr (not_num hn).1)]
/-- a worth that the frame cannot take -/
def Frm.wrong : Frm → Wth → Option Str
  | .part (.two .give _ _) _, .fn _ _ => none
  | .part (.two .give _ _) _, _ => some "function"
  | .part (.one _ _) _, .pair _ _ _ => none
  | .part (.one _ _) _, _ => some "pair"
  | _, .num _ => none
  | _, _ => some "number"
theorem mv_wrong (hf : ∀ f ∈ fr, f.good P) {q : Part} (hq : q.firsts) {w : Wth} (hw : w.good P) {wd : Str} (hx : (Frm.part q e).wrong w = some wd) (h : Sim P p most (wholes (fr ++ [.part q e]) w.part) ws) (hm : ws.length ≤ most) :
    runM P most p = (.fault wd, ws) := by
  rw [wholes_snoc] at h
  cases q with
  | one k a =>
    have hk : k.word ∉ [("give" : Str), "fun", "number", "pair"] := by cases k <;> decide
    have hst : strictM P (.one k w.part) = 0 := by
      show (if w.part.worth P = true then 0 else 1) = 0
      rw [Wth.worth hw]; rfl
    have hp : ¬ w.isPair := by cases w <;> first | exact id | cases hx
    have hwd : wd = "pair" := by cases w <;> cases hx <;> rfl
    refine Sim.fault hf (c := .one k w.part) h hm (word_no hk) ?_
    rw [stepM_eq, if_pos hst, hwd]
    show sideM k w.part = _
    unfold sideM
    split
    · rename_i x y hxy
      exact absurd hxy (not_pair hp x y)
    · rfl
  | whn a b d =>
    have hst : strictM P (.whn w.part (b.put e.env) (d.put e.env)) = 0 := by
      show (if w.part.worth P = true then 0 else 1) = 0
      rw [Wth.worth hw]; rfl
    have hp : ¬ w.isNum := by cases w <;> first | exact id | cases hx
    have hwd : wd = "number" := by cases w <;> cases hx <;> rfl
    refine Sim.fault hf (c := .whn w.part (b.put e.env) (d.put e.env)) h hm (word_no (show ("when" : Str) ∉ [("give" : Str), "fun", "number", "pair"] by decide)) ?_
    rw [stepM_eq, if_pos hst, hwd]
    show whenM w.part _ _ = _
    unfold whenM
    split
    · rename_i n hxy
      exact absurd hxy ((not_num hp).2 n)
    · rfl
  | two k a b =>
    by_cases hg : k = .give
    · subst hg
      have hp : ¬ w.isFn := by cases w <;> first | exact id | cases hx
      have hwd : wd = "function" := by cases w <;> cases hx <;> rfl
      have hst : strictM P (.two .give w.part (b.put e.env)) = 0 := by
        show (if w.part.worth P = true then 0 else 1) = 0
        rw [Wth.worth hw]; rfl
      have hh := not_fn hp
      refine Sim.fault hf (c := .two .give w.part (b.put e.env)) h hm ?_ ?_
      · rw [worth_no (p := .two .give w.part (b.put e.env)) hh.1]
        exact decide_eq_false (show ("give" : Str) ∉ _ by decide)
      · rw [stepM_eq, if_pos hst, hwd]
        show callM P _ = _
        unfold callM
        split
        · rename_i f hxy
          exact absurd hxy (hh.2 f)
        · rfl
    · have hk : k.op = true := by cases k <;> first | rfl | exact absurd rfl hg | exact absurd rfl hq
      have hp : ¬ w.isNum := by
        cases w with
        | num n => exfalso; cases k <;> first | exact absurd rfl hg | (cases hk; done) | (cases hx; done)
        | _ => exact id
      have hwd : wd = "number" := by
        cases w with
        | num n => exact absurd trivial hp
        | _ => cases k <;> first | exact absurd rfl hg | (cases hk; done) | (cases hx; rfl)
      have hst : strictM P (.two k w.part (b.put e.env)) = 0 := by
        rw [strict_op hk, Wth.worth hw, if_pos rfl, if_neg (not_num hp).1]
      have ho : ownM P (.two k w.part (b.put e.env)) = opM k w.part (b.put e.env) := by cases k <;> first | rfl | cases hk
      refine Sim.fault hf (c := .two k w.part (b.put e.env)) h hm (op_word hk (op_pair hk) _ _) ?_
      rw [stepM_eq, if_pos hst, ho, opM_no (.inl (not_num hp).1), hwd]
  | _ => exact hq.elim
end

/-! ### the law's tables on the heap -/
/-- all but lists stays -/
def Kn (H H' : Hp) : Prop := ∀ a o, (∀ xs, o ≠ .lst xs) → H a = some o → H' a = some o
theorem Kn.refl (H : Hp) : Kn H H := fun _ _ _ e => e
theorem Kn.trans {H H1 H2 : Hp} (a : Kn H H1) (b : Kn H1 H2) : Kn H H2 := fun c o n e => b c o n (a c o n e)
theorem Kn.same {H H' : Hp} (s : Same H H') : Kn H H' := fun a o _ e => s a o e
theorem Kn.chg {H H' : Hp} {a : Addr} {xs : List V} (c : Chg a H H') (h : H a = some (.lst xs)) : Kn H H' := fun b o n e => c b o (by rintro rfl; rw [h] at e; cases e; exact n xs rfl) e
theorem Kn.tk {H H' : Hp} (k : Kn H H') : Tk H H' := fun b xs e => k b _ (fun _ z => by cases z) e
/-- v is a table that tells what e tells, so many looks deep -/
def Real : Nat → Hp → V → GEnv → Prop
  | 0, _, _, _ => True
  | n + 1, H, v, e => ∃ d kvs, v = .ref d ∧ H d = some (.dK kvs) ∧ kvs.length ≤ e.wid ∧ ∀ x, match e.look x with
    | none => valV kvs (.inr x) = none
    | some (b, p, e') => ∃ t a v', valV kvs (.inr x) = some (.ref t) ∧ H t = some (.tup [a, v', .bl b]) ∧ Tp H a p.data ∧ Real n H v' e'
def RealA (H : Hp) (v : V) (e : GEnv) : Prop := ∀ n, Real n H v e
def DictAt (H : Hp) (kvs : List (Key × V)) (e : GEnv) : Prop := kvs.length ≤ e.wid ∧ ∀ x, match e.look x with
    | none => valV kvs (.inr x) = none
    | some (b, p, e') => ∃ t a v', valV kvs (.inr x) = some (.ref t) ∧ H t = some (.tup [a, v', .bl b]) ∧ Tp H a p.data ∧ RealA H v' e'
theorem Real.mono {H H' : Hp} (k : Kn H H') : ∀ {n : Nat} {v : V} {e : GEnv}, Real n H v e → Real n H' v e
  | 0, _, _, _ => trivial
  | n + 1, v, e, ⟨d, kvs, h1, h2, h3, h4⟩ => by
    refine ⟨d, kvs, h1, k _ _ (fun _ z => by cases z) h2, h3, fun x => ?_⟩
    have h5 := h4 x
    split at h5
    · exact h5
    · obtain ⟨t, a, v', g1, g2, g3, g4⟩ := h5
      exact ⟨t, a, v', g1, k.tk _ _ g2, g3.mono k.tk, Real.mono k g4⟩
theorem RealA.mono {H H' : Hp} (k : Kn H H') {v : V} {e : GEnv} (h : RealA H v e) : RealA H' v e := fun n => (h n).mono k
theorem DictAt.mono {H H' : Hp} (k : Kn H H') {kvs : List (Key × V)} {e : GEnv} (h : DictAt H kvs e) : DictAt H' kvs e := by
  refine ⟨h.1, fun x => ?_⟩
  have h5 := h.2 x
  split at h5
  · exact h5
  · obtain ⟨t, a, v', g1, g2, g3, g4⟩ := h5
    exact ⟨t, a, v', g1, k.tk _ _ g2, g3.mono k.tk, g4.mono k⟩
theorem RealA.mk {H : Hp} {d : Addr} {kvs : List (Key × V)} {e : GEnv} (h : H d = some (.dK kvs)) (hd : DictAt H kvs e) : RealA H (.ref d) e
  | 0 => trivial
  | n + 1 => by
    refine ⟨d, kvs, rfl, h, hd.1, fun x => ?_⟩
    have h5 := hd.2 x
    split at h5
    · exact h5
    · obtain ⟨t, a, v', g1, g2, g3, g4⟩ := h5
      exact ⟨t, a, v', g1, g2, g3, g4 n⟩
theorem RealA.out {H : Hp} {v : V} {e : GEnv} (h : RealA H v e) : ∃ d kvs, v = .ref d ∧ H d = some (.dK kvs) ∧ DictAt H kvs e := by
  obtain ⟨d, kvs, rfl, h2, h3, h4⟩ := h 1
  refine ⟨d, kvs, rfl, h2, h3, fun x => ?_⟩
  have h5 := h4 x
  split at h5
  · exact h5
  · rename_i b p e' hx
    obtain ⟨t, a, v', g1, g2, g3, _⟩ := h5
    refine ⟨t, a, v', g1, g2, g3, fun n => ?_⟩
    obtain ⟨d', kvs', k1, k2, _, k4⟩ := h (n + 1)
    cases k1
    rw [h2] at k2
    cases k2
    have k5 := k4 x
    rw [hx] at k5
    obtain ⟨t', a', v'', l1, l2, _, l4⟩ := k5
    rw [g1] at l1
    cases l1
    rw [g2] at l2
    cases l2
    exact l4
/-- the same, the tables told at an earlier heap -/
def DictO (H0 H : Hp) (kvs : List (Key × V)) (e : GEnv) : Prop := kvs.length ≤ e.wid ∧ ∀ x, match e.look x with
    | none => valV kvs (.inr x) = none
    | some (b, p, e') => ∃ t a v', valV kvs (.inr x) = some (.ref t) ∧ H t = some (.tup [a, v', .bl b]) ∧ Tp H a p.data ∧ RealA H0 v' e'
theorem DictO.tk {H0 H H' : Hp} (k : Tk H H') {kvs : List (Key × V)} {e : GEnv} (h : DictO H0 H kvs e) : DictO H0 H' kvs e := by
  refine ⟨h.1, fun x => ?_⟩
  have h5 := h.2 x
  split at h5
  · exact h5
  · obtain ⟨t, a, v', g1, g2, g3, g4⟩ := h5
    exact ⟨t, a, v', g1, k _ _ g2, g3.mono k, g4⟩
theorem DictO.at {H0 H : Hp} (k : Kn H0 H) {kvs : List (Key × V)} {e : GEnv} (h : DictO H0 H kvs e) : DictAt H kvs e := by
  refine ⟨h.1, fun x => ?_⟩
  have h5 := h.2 x
  split at h5
  · exact h5
  · obtain ⟨t, a, v', g1, g2, g3, g4⟩ := h5
    exact ⟨t, a, v', g1, g2, g3, g4.mono k⟩
theorem DictO.nil {H0 H : Hp} : DictO H0 H [] .nil := ⟨Nat.le_refl _, fun _ => rfl⟩
theorem DictO.bind {H0 H : Hp} {kvs : List (Key × V)} {e e' : GEnv} {x : Str} {p : Part} {t : Addr} {a v' : V} (h : DictO H0 H kvs e) (h1 : H t = some (.tup [a, v', .bl false])) (h2 : Tp H a p.data) (h3 : RealA H0 v' e') :
    DictO H0 H (putK kvs (.inr x) (.ref t)) (.bind x p e' e) := by
  refine ⟨Nat.le_trans (length_putK _ _ _) (by have := h.1; show kvs.length + 1 ≤ 1 + e.wid; omega), fun y => ?_⟩
  have h5 := h.2 y
  rw [valV_put]
  show (match (if y = x then some (false, p, e') else e.look y) with | none => _ | some (b, p, e') => _)
  by_cases hy : y = x
  · subst hy
    rw [if_pos rfl]
    exact ⟨t, a, v', by simp, h1, h2, h3⟩
  · have hk : ¬ ((.inr x : Key) = .inr y) := fun z => hy (by cases z; rfl)
    have hk' : ¬ ((.inr y : Key) = .inr x) := fun z => hy (by cases z; rfl)
    rw [if_neg hy]
    first
    | (rw [if_neg hk]; exact h5)
    | (rw [if_neg hk']; exact h5)
/-- a part with its table -/
def ClosAt (H : Hp) (v : V) (c : Clo) : Prop := ∃ t a d, v = .ref t ∧ H t = some (.tup [a, d]) ∧ Tp H a c.p.data ∧ RealA H d c.e
theorem ClosAt.mono {H H' : Hp} (k : Kn H H') {v : V} {c : Clo} : ClosAt H v c → ClosAt H' v c
  | ⟨t, a, d, h1, h2, h3, h4⟩ => ⟨t, a, d, h1, k.tk _ _ h2, h3.mono k.tk, h4.mono k⟩
inductive Clos (H : Hp) : List V → List Clo → Prop
  | nil : Clos H [] []
  | cons {v : V} {c : Clo} {vs : List V} {cs : List Clo} (h : ClosAt H v c) (r : Clos H vs cs) : Clos H (v :: vs) (c :: cs)
theorem Clos.mono {H H' : Hp} (k : Kn H H') {vs : List V} {cs : List Clo} (h : Clos H vs cs) : Clos H' vs cs := by
  induction h with
  | nil => exact .nil
  | cons h _ ih => exact .cons (h.mono k) ih
theorem Clos.len {H : Hp} {vs : List V} {cs : List Clo} (h : Clos H vs cs) : vs.length = cs.length := by
  induction h with
  | nil => rfl
  | cons h _ ih => simp [ih]
theorem Clos.at {H : Hp} {vs : List V} {cs : List Clo} (h : Clos H vs cs) : ∀ {i : Nat} {v : V}, vs[i]? = some v → ∃ c, cs[i]? = some c ∧ ClosAt H v c := by
  induction h with
  | nil => intro i v e; simp at e
  | cons h _ ih =>
    intro i v e
    cases i with
    | zero => cases e; exact ⟨_, rfl, h⟩
    | succ i => exact ih (i := i) e
theorem Clos.snoc {H : Hp} {vs : List V} {cs : List Clo} {v : V} {c : Clo} (h : Clos H vs cs) (h1 : ClosAt H v c) : Clos H (vs ++ [v]) (cs ++ [c]) := by
  induction h with
  | nil => exact .cons h1 .nil
  | cons h _ ih => exact .cons h ih
theorem callE_snoc : ∀ (l : List (Str × Clo)) (q : Str × Clo) (e : GEnv), callE (l ++ [q]) e = .bind q.1 q.2.p q.2.e (callE l e)
  | [], _, _ => rfl
  | x :: r, q, e => callE_snoc r q _

/-! ### the law's machine, walked -/
def spLCalled : Sp := fun vs H Q _ => ∃ (v : V) (P : Prog) (f : Str) (g : Addr) (us : List V) (gs : List Clo), vs = [v, .str f, .ref g] ∧ Tp H v P.data ∧ P.fine ∧ f ∈ P.names ∧ H g = some (.lst us) ∧ Clos H us gs ∧ gs.length = P.wantsOf f ∧
  ∀ (v' : V) (H' : Hp), ClosAt H' v' ⟨P.bodyOf f, callE ((P.thingsOf f).zip gs) .nil⟩ → Same H H' → Q v' H'
theorem pure_lcalled {K : PySem.W.Frag} {w : World} : PureOk 3 spLCalled (t_law_called K w) 8 := by
  refine ⟨fun vs H Q E ⟨_, _, _, _, _, _, e, _⟩ => by rw [e]; rfl, ?_⟩
  rintro vs H Q E ⟨v, P, f, g, us, gs, rfl, tP, hfine, hfm, eg, hgs, hgl, q⟩
  show t_law_called K w _ [some v, some (.str f), some (.ref g), none, none, none, none, none] H
  unfold t_law_called
  obtain ⟨pa, fa, u, vs, rfl, epa, efa, tfs, tas⟩ := tP.prog
  obtain ⟨j, fn, h1, h2, h3, h4, h5, h6⟩ := Prog.fn_of hfine hfm
  have hvl : vs.length = P.fs.length := by rw [tfs.length, List.length_map]
  have hfew := hfine.few
  have hjl := (List.getElem?_eq_some_iff.mp h1).1
  have h6few := h6.few
  rw [wants_len, h5] at hgl
  walk_at "gg"
  refine g_seqT ?_
  walk_at "gg"
  refine lc_one efa (by omega) j (by omega) (fun y H' => ∃ c b d, y = .ref c ∧ H' c = some (.tup [.ref b, d]) ∧ H' b = some (.tup (fn.things.map V.str)) ∧ Tp H' d fn.body.data) (fun y H H' k ⟨c, b, d, e, h, h', t⟩ => ⟨c, b, d, e, k _ _ h, k _ _ h', t.mono k⟩) ?_ ?_
  · intro i x H' Na Nb hx s hA hB
    obtain ⟨g', hg, td⟩ := Prog.fn_at tfs hx
    obtain ⟨a3, b3, u3, rfl, ea3, eb3, tu3⟩ := td.fn1
    have hp := pick_at hfine h3 hg
    walk_at "gg"
    refine ⟨rfl, ?_⟩
    walk_at "gg"
    by_cases e : g'.name = f
    · have hi := hp.mp e
      refine g_T (decide_eq_true e) ?_
      walk_at "gg"
      subst hi
      rw [h1] at hg
      cases hg
      rename_i c4 H4 n4 e4 s4
      exact hA _ _ rfl s4 ⟨c4, b3, u3, rfl, e4, by walk_at "at", by walk_at "tp"⟩
    · refine g_F (decide_eq_false e) ?_
      exact hB _ (fun z => e (hp.mpr z)) (.refl _)
  · rintro D y H2 nD eD ⟨c, b, d, rfl, ec, eb, td⟩ s2
    have eg2 := s2 _ _ eg
    have hgs2 := hgs.mono (Kn.same s2)
    walk_at "gg"
    rename_i kn H3 n3 e3 s3
    refine ⟨.tup, .lst, _, _, fn.things.map V.str, us, rfl, SqT.of (by walk_at "at"), SqL.of (by walk_at "at"), ?_⟩
    have hkn : H2 kn = none := n3
    have hul := hgs.len
    refine for_M (xs := fn.things.map V.str) (ys := us) (fun i σ H' => ∃ (x5 x7 : Option V) (kvs : List (Key × V)), σ = [some (.ref pa), some (.str f), some (.ref g), some (.ref b), some d, x5, some (.ref kn), x7] ∧
      H' kn = some (.dK kvs) ∧ DictO H2 H' kvs (callE ((fn.things.zip gs).take i) .nil) ∧ Same H2 H') ?_ ⟨_, _, _, rfl, e3, DictO.nil, s3⟩ ?_ ?_
    · rintro i σ H' ⟨_, _, _, _, _, _, s⟩
      exact ⟨SqT.of (s _ _ eb), SqL.of (s _ _ eg2)⟩
    · rintro i x y T σ H4 H5 hx hy ⟨x5, x7, kvs, rfl, ek, hd, s4⟩ nT eT s5
      rw [List.getElem?_map] at hx
      obtain ⟨nm, hnm, rfl⟩ := Option.map_eq_some_iff.mp hx
      obtain ⟨cl, hcl, t, a, dv, rfl, et, ta, hr⟩ := hgs2.at hy
      have et5 : H5 t = some (.tup [a, dv]) := s5 _ _ (s4 _ _ et)
      have ta5 : Tp H5 a cl.p.data := (ta.mono (Same.tk s4)).mono (Same.tk s5)
      have ek5 : H5 kn = some (.dK kvs) := s5 _ _ ek
      have hz : (fn.things.zip gs)[i]? = some (nm, cl) := by rw [List.getElem?_zip_eq_some]; exact ⟨hnm, hcl⟩
      have hilt := (List.getElem?_eq_some_iff.mp hz).1
      have hi4 : i < 4 := by rw [List.length_zip] at hilt; omega
      walk_at "gg"
      rename_i t6 H6 n6 e6 s6
      refine g_addT (SqT.of (by walk_at "at")) (SqT.of (by walk_at "at")) (by show 2 + 1 ≤ 16777216; decide) (by simp) (by simp) ?_
      walk_at "gg"
      rename_i t7 H7 n7 e7 s7
      have ek7 : H7 kn = some (.dK kvs) := by walk_at "at"
      have hlen := hd.1
      rw [callE_wid, List.length_take] at hlen
      refine g_setK (k := .inr nm) ek7 rfl (by have : GEnv.wid .nil = 0 := rfl; show _ < 16777216; omega) ?_
      walk_at "gg"
      rename_i H8 e8 c8
      have s27 : Same H2 H7 := s4.trans (s5.trans (s6.trans s7))
      have s28 : Same H2 H8 := fun x o ex => c8 _ _ (ne_of_none ex hkn) (s27 _ _ ex)
      have k78 : Tk H7 H8 := c8.tk fun xs z => by rw [ek7] at z; cases z
      have k48 : Tk H4 H8 := (Same.tk (s5.trans (s6.trans s7))).trans k78
      refine ⟨_, _, _, rfl, e8, ?_, s28⟩
      rw [List.take_add_one, hz]
      show DictO H2 H8 _ (callE (_ ++ [(nm, cl)]) .nil)
      rw [callE_snoc]
      exact (hd.tk k48).bind (k78 _ _ e7) ((ta5.mono (Same.tk (s6.trans s7))).mono k78) hr
    · rintro σ H4 ⟨x5, x7, kvs, rfl, ek, hd, s4⟩
      rw [List.length_map, hul, List.take_of_length_le (by rw [List.length_zip]; omega)] at hd
      walk_at "gg"
      rename_i t9 H9 n9 e9 s9
      refine q _ _ ⟨t9, _, _, rfl, e9, ?_, ?_⟩ (s2.trans (s4.trans s9))
      · show Tp H9 d (P.bodyOf f).data
        rw [h4]
        exact (td.mono (Same.tk s4)).mono (Same.tk s9)
      · show RealA H9 _ (callE ((P.thingsOf f).zip gs) .nil)
        rw [h5]
        exact RealA.mk (s9 _ _ ek) ((hd.at (Kn.same s4)).mono (Kn.same s9))

/-! ### worths and frames on the heap; the second of two numbers -/
def Wth.word : Wth → Str
  | .num _ => "number"
  | .fn _ _ => "function"
  | .pair _ _ _ => "pair"
def WthAt (H : Hp) (fl wl : Addr) (u : V) : Wth → Prop
  | .num n => ∃ t, u = .ref t ∧ H t = some (.tup [.str "number", .int n])
  | .fn f gs => ∃ t g us, u = .ref t ∧ H t = some (.tup [.str "function", .str f, .ref g]) ∧ H g = some (.lst us) ∧ g ≠ fl ∧ g ≠ wl ∧ Clos H us gs
  | .pair a b e => ∃ t u1 u2, u = .ref t ∧ H t = some (.tup [.str "pair", u1, u2]) ∧ ClosAt H u1 ⟨a, e⟩ ∧ ClosAt H u2 ⟨b, e⟩
theorem WthAt.head {H : Hp} {fl wl : Addr} {u : V} : ∀ {w : Wth}, WthAt H fl wl u w → ∃ t xs, u = .ref t ∧ H t = some (.tup (.str w.word :: xs))
  | .num n, ⟨t, e, h⟩ => ⟨t, _, e, h⟩
  | .fn f gs, ⟨t, g, us, e, h, _⟩ => ⟨t, _, e, h⟩
  | .pair a b e, ⟨t, u1, u2, e', h, _⟩ => ⟨t, _, e', h⟩
/-- but for two lists all stays -/
def Kf (fl wl : Addr) (H H' : Hp) : Prop := ∀ b o, b ≠ fl → b ≠ wl → H b = some o → H' b = some o
theorem Kf.same {fl wl : Addr} {H H' : Hp} (s : Same H H') : Kf fl wl H H' := fun b o _ _ e => s b o e
theorem Kf.trans {fl wl : Addr} {H H1 H2 : Hp} (a : Kf fl wl H H1) (b : Kf fl wl H1 H2) : Kf fl wl H H2 := fun c o n m e => b c o n m (a c o n m e)
theorem Kf.kn {fl wl : Addr} {H H' : Hp} {us ws : List V} (k : Kf fl wl H H') (h1 : H fl = some (.lst us)) (h2 : H wl = some (.lst ws)) : Kn H H' := fun b o n e =>
  k b o (by rintro rfl; rw [h1] at e; cases e; exact n us rfl) (by rintro rfl; rw [h2] at e; cases e; exact n ws rfl) e
theorem WthAt.mono {fl wl : Addr} {H H' : Hp} (k : Kf fl wl H H') (kn : Kn H H') {u : V} : ∀ {w : Wth}, WthAt H fl wl u w → WthAt H' fl wl u w
  | .num n, ⟨t, e, h⟩ => ⟨t, e, kn.tk _ _ h⟩
  | .fn f gs, ⟨t, g, us, e, h, h1, h2, h3, h4⟩ => ⟨t, g, us, e, kn.tk _ _ h, k _ _ h2 h3 h1, h2, h3, h4.mono kn⟩
  | .pair a b e, ⟨t, u1, u2, e', h, h1, h2⟩ => ⟨t, u1, u2, e', kn.tk _ _ h, h1.mono kn, h2.mono kn⟩
def FrmAt (H : Hp) (u : V) : Frm → Prop
  | .part p e => ClosAt H u ⟨p, e⟩
  | .second k n => ∃ t s d, u = .ref t ∧ H t = some (.tup [.ref s, d]) ∧ H s = some (.tup [.str "second", .str k.word, .int n])
theorem FrmAt.mono {H H' : Hp} (k : Kn H H') {u : V} : ∀ {f : Frm}, FrmAt H u f → FrmAt H' u f
  | .part p e, h => ClosAt.mono k h
  | .second _ n, ⟨t, s, d, e, h1, h2⟩ => ⟨t, s, d, e, k.tk _ _ h1, k.tk _ _ h2⟩
inductive Frms (H : Hp) : List V → List Frm → Prop
  | nil : Frms H [] []
  | cons {v : V} {c : Frm} {vs : List V} {cs : List Frm} (h : FrmAt H v c) (r : Frms H vs cs) : Frms H (v :: vs) (c :: cs)
theorem Frms.mono {H H' : Hp} (k : Kn H H') {vs : List V} {cs : List Frm} (h : Frms H vs cs) : Frms H' vs cs := by
  induction h with
  | nil => exact .nil
  | cons h _ ih => exact .cons (h.mono k) ih
theorem Frms.len {H : Hp} {vs : List V} {cs : List Frm} (h : Frms H vs cs) : vs.length = cs.length := by
  induction h with
  | nil => rfl
  | cons h _ ih => simp [ih]
theorem Frms.snoc {H : Hp} {vs : List V} {cs : List Frm} {v : V} {c : Frm} (h : Frms H vs cs) (h1 : FrmAt H v c) : Frms H (vs ++ [v]) (cs ++ [c]) := by
  induction h with
  | nil => exact .cons h1 .nil
  | cons h _ ih => exact .cons h ih
theorem Frms.snoc_inv {H : Hp} : ∀ {vs : List V} {cs : List Frm} {c : Frm}, Frms H vs (cs ++ [c]) → ∃ us v, vs = us ++ [v] ∧ Frms H us cs ∧ FrmAt H v c
  | _, [], c, .cons h .nil => ⟨[], _, rfl, .nil, h⟩
  | _, d :: cs, c, .cons h r => by
    obtain ⟨us, v, rfl, h1, h2⟩ := Frms.snoc_inv (cs := cs) r
    exact ⟨_ :: us, v, rfl, .cons h h1, h2⟩
def kvR (m n : Int) : List (Key × V) := [(.inr "plus", .int (m + n)), (.inr "less", .int (m - n)), (.inr "times", .int (m * n)), (.inr "below", .int (if m < n then 1 else 0))]
theorem kvR_at {k : K2} (h : k.op = true) (m n : Int) : valV (kvR m n) (Sum.inr k.word) = some (.int (reck k m n)) := by
  cases k with
  | give => cases h
  | pair => cases h
  | plus => rfl
  | less => rfl
  | times => rfl
  | below => rfl
def spLSecond : Sp := fun vs H Q _ => ∃ (k : K2) (n : Int) (u : V) (fl wl : Addr) (w : Wth) (P : Prog) (ws : List V), vs = [.str k.word, .int n, u, .ref wl] ∧ k.op = true ∧ n.natAbs < 10 ^ 60 ∧ WthAt H fl wl u w ∧ w.good P ∧ H wl = some (.lst ws) ∧ ws.length ≤ 1000 ∧
  (¬ w.isNum → ∀ r H', H' r = some (.tup [.non, .non, .str "number"]) → Same H H' → Q (.ref r) H') ∧
  (∀ m, w = .num m → ¬ (reck k n m).natAbs < 10 ^ 60 → ∀ r H', H' r = some (.tup [.non, .non, .str "great"]) → Same H H' → Q (.ref r) H') ∧
  (∀ m, w = .num m → (reck k n m).natAbs < 10 ^ 60 → ∀ r t H', H' r = some (.tup [.non, .ref t, .str ""]) → H' t = some (.tup [.str "number", .int (reck k n m)]) → H' wl = some (.lst (ws ++ [.str "number"])) → Chg wl H H' → Q (.ref r) H')
theorem pure_lsecond {K : PySem.W.Frag} {w : World} : PureOk 4 spLSecond (t_law_second K w) 6 := by
  refine ⟨fun vs H Q E ⟨_, _, _, _, _, _, _, _, e, _⟩ => by rw [e]; rfl, ?_⟩
  rintro vs H Q E ⟨k, n, u, fl, wl, wt, P, ws, rfl, hk, hn, hw, hg, ew, hws, q1, q2, q3⟩
  show t_law_second K w _ [some (.str k.word), some (.int n), some u, some (.ref wl), none, none] H
  unfold t_law_second
  cases wt with
  | pair a b e =>
    obtain ⟨t, u1, u2, rfl, et, _⟩ := hw
    walk_at "gg"
    exact q1 id _ _ (by walk_at "at") (by walk_at "same")
  | fn f gs =>
    obtain ⟨t, g, us, rfl, et, _⟩ := hw
    walk_at "gg"
    exact q1 id _ _ (by walk_at "at") (by walk_at "same")
  | num m =>
    obtain ⟨t, rfl, et⟩ := hw
    have hm : m.natAbs < 10 ^ 60 := hg
    have l1 := small_log hm
    have l2 := small_log hn
    clear hm hn
    walk_at "gg"
    rename_i d H1 n1 e1 s1
    refine .inr ⟨n, m, rfl, rfl, by show _ + _ < 1000000; omega, ?_⟩
    walk_at "gg"
    have hb : (if decide (n < m) = true then (1 : Int) else 0) = if n < m then 1 else 0 := by
      by_cases h : n < m
      · rw [if_pos (decide_eq_true h), if_pos h]
      · rw [if_neg (by rw [decide_eq_false h]; decide), if_neg h]
    rw [hb]
    refine g_pairs (kvR n m) e1 rfl (show 4 ≤ 15 by decide) ?_
    walk_at "gg"
    rename_i H4 e4 c4
    have e4' : H4 d = some (.dK (kvR n m)) := e4
    have s4 : Same H H4 := fun b o e => c4 _ _ (ne_of_none e n1) (s1 _ _ e)
    clear e4 c4 s1 n1 hb
    refine g_ixD e4' (k := .inr k.word) rfl (kvR_at hk n m) ?_
    walk_at "gg"
    refine g_powI ⟨by decide, by decide, by decide⟩ ?_
    walk_at "gg"
    have e : decide ((10 : Int) ^ Int.toNat 60 ≤ ((reck k n m).natAbs : Int)) = !decide ((reck k n m).natAbs < 10 ^ 60) := by
      have : (10 : Int) ^ Int.toNat 60 = ((10 ^ 60 : Nat) : Int) := by rfl
      rw [this]
      by_cases h : (reck k n m).natAbs < 10 ^ 60
      · rw [decide_eq_true h, decide_eq_false]; · rfl
        intro h2
        exact absurd (Int.ofNat_le.mp h2) (Nat.not_le.mpr h)
      · rw [decide_eq_false h, decide_eq_true]; · rfl
        exact Int.ofNat_le.mpr (Nat.not_lt.mp h)
    rw [e]
    by_cases hs : (reck k n m).natAbs < 10 ^ 60
    · rw [decide_eq_true hs]
      have q3' := q3 m rfl hs
      clear hs e e4' q1 q2 q3
      walk_at "gg"
      refine g_append (by walk_at "at" : H4 wl = _) (by show _ < 16777216; omega) ?_
      walk_at "gg"
      rename_i H5 e5 c5 t6 H6 n6 e6 s6 r7 H7 n7 e7 s7
      exact q3' _ _ _ (by walk_at "at") (by walk_at "at") (by walk_at "at") fun b o nb eb => s7 _ _ (s6 _ _ (c5 _ _ nb (s4 _ _ eb)))
    · rw [decide_eq_false hs]
      have q2' := q2 m rfl hs
      clear hs e e4' q1 q2 q3
      walk_at "gg"
      exact q2' _ _ (by walk_at "at") (by walk_at "same")

/-! ### the law's machine, walked inward -/
inductive MSt
  | ev (c : Clo) | rt (w : Wth)
def MSt.whole : MSt → Part
  | .ev c => c.whole
  | .rt w => w.part
def MSt.good (P : Prog) : MSt → Prop
  | .ev c => c.good P.names
  | .rt w => w.good P
def MSt.wgt : MSt → Nat
  | .ev c => 4 * c.p.size + 1
  | .rt _ => 0
def Frm.wgt : Frm → Nat
  | .part (.two _ _ b) _ => 4 * b.size + 3
  | .part _ _ => 3
  | .second _ _ => 1
def frw (fr : List Frm) : Nat := (fr.map Frm.wgt).sum
theorem frw_snoc (fr : List Frm) (f : Frm) : frw (fr ++ [f]) = frw fr + f.wgt := by
  unfold frw
  rw [List.map_append, List.sum_append]
  rfl
theorem Frm.wgt_pos : ∀ f : Frm, 1 ≤ f.wgt
  | .second _ _ => Nat.le_refl _
  | .part p _ => by
    cases p with
    | two k a b => show 1 ≤ 4 * b.size + 3; omega
    | _ => show 1 ≤ 3; decide
theorem frw_len : ∀ fr : List Frm, fr.length ≤ frw fr
  | [] => Nat.le_refl _
  | f :: r => by
    have h1 := f.wgt_pos
    have h2 := frw_len r
    show r.length + 1 ≤ f.wgt + frw r
    omega
def StAt (H : Hp) (fl wl : Addr) (x y : V) : MSt → Prop
  | .ev c => ClosAt H x c ∧ y = .non
  | .rt w => WthAt H fl wl y w
/-- a move: silent ones grow lighter, the others tell a word -/
structure Mv (P : Prog) (st : MSt) (fr : List Frm) (st' : MSt) (fr' : List Frm) (ws ws' : List Str) : Prop where
  good : st'.good P
  frms : ∀ f ∈ fr', f.good P
  sim : ∀ p most, Sim P p most (wholes fr st.whole) ws → Sim P p most (wholes fr' st'.whole) (ws ++ ws')
  few : ws'.length ≤ 2
  wgt : st'.wgt + frw fr' ≤ st.wgt + frw fr + 257 * ws'.length
  less : ws' = [] → st'.wgt + frw fr' < st.wgt + frw fr
/-- a let's table: its rows upon what was known -/
theorem RealA.rows {H : Hp} {d : Addr} {kvs kvs0 : List (Key × V)} {r : Rows} {e : GEnv} (h : H d = some (.dK kvs)) (h0 : DictAt H kvs0 e) (hl : kvs.length ≤ e.wid + r.names.length)
    (h1 : ∀ q ∈ r.list, ∃ t u, valV kvs (.inr q.1) = some (.ref t) ∧ H t = some (.tup [u, .ref d, .bl true]) ∧ Tp H u q.2.data) (h2 : ∀ x, x ∉ r.names → valV kvs (.inr x) = valV kvs0 (.inr x)) : RealA H (.ref d) (.rows r e) := by
  intro n
  induction n with
  | zero => exact trivial
  | succ n ih =>
    refine ⟨d, kvs, rfl, h, by show _ ≤ r.names.length + e.wid; omega, fun x => ?_⟩
    show (match (match r.row x with | some p => some (true, p, GEnv.rows r e) | none => e.look x) with | none => _ | some (b, p, e') => _)
    cases hr : r.row x with
    | some p =>
      obtain ⟨t, u, g1, g2, g3⟩ := h1 _ (Rows.row_mem hr).2
      exact ⟨t, u, _, g1, g2, g3, ih⟩
    | none =>
      have hx : x ∉ r.names := fun z => by obtain ⟨p, hp⟩ := Rows.row_some z; rw [hr] at hp; cases hp
      have h5 := h0.2 x
      rw [h2 x hx]
      cases hk : e.look x with
      | none => rw [hk] at h5; exact h5
      | some q =>
        rw [hk] at h5
        obtain ⟨t, a, v', g1, g2, g3, g4⟩ := h5
        exact ⟨t, a, v', g1, g2, g3, g4 n⟩
def spLInto : Sp := fun vs H Q _ => ∃ (v h : V) (fl wl : Addr) (P : Prog) (c : Clo) (fr : List Frm) (us : List V) (ws : List Str), vs = [v, h, .ref fl, .ref wl] ∧ Tp H v P.data ∧ P.fine ∧ ClosAt H h c ∧ c.good P.names ∧ H fl = some (.lst us) ∧ Frms H us fr ∧ (∀ f ∈ fr, f.good P) ∧ us.length ≤ 1000000 ∧ H wl = some (.lst (ws.map V.str)) ∧ ws.length ≤ 1000 ∧ fl ≠ wl ∧
  ∀ (r : Addr) (x y : V) (st' : MSt) (fr' : List Frm) (us' : List V) (ws' : List Str) (H' : Hp), H' r = some (.tup [x, y]) → StAt H' fl wl x y st' → Mv P (.ev c) fr st' fr' ws ws' → H' fl = some (.lst us') → Frms H' us' fr' → H' wl = some (.lst ((ws ++ ws').map V.str)) → Kf fl wl H H' → Q (.ref r) H'
theorem pure_linto {K : PySem.W.Frag} {w : World} : PureOk 4 spLInto (t_law_into K w spLWants spLCalled) 9 := by
  refine ⟨fun vs H Q E ⟨_, _, _, _, _, _, _, _, _, e, _⟩ => by rw [e]; rfl, ?_⟩
  rintro vs H Q E ⟨v, h, fl, wl, P, ⟨p, e⟩, fr, us, ws, rfl, tP, hfine, hc, hgood, ef, hfr, hfg, hul, ew, hwl, hne, q⟩
  show t_law_into K w _ _ _ [some v, some h, some (.ref fl), some (.ref wl), none, none, none, none, none] H
  unfold t_law_into
  obtain ⟨t, a, d, rfl, et, tp, hr⟩ := hc
  have tp' : Tp H a p.data := tp
  have hr' : RealA H d e := hr
  clear tp hr
  have hwl2 : (ws.map V.str).length < 16777216 := by rw [List.length_map]; omega
  have hsz : e.wid + p.size ≤ 64 := hgood.2.1
  walk_at "gg"
  cases p with
  | shut b => exact hgood.1.elim
  | num n =>
    obtain ⟨_, e1', ec⟩ := tp'.num
    subst e1'
    walk_at "gg"
    rename_i t2 H2 n2 e2 s2 t3 H3 n3 e3 s3
    have s13 : Same H H3 := s2.trans s3
    refine q t3 _ _ (.rt (.num n)) fr us [] H3 e3 ⟨t2, rfl, s3 _ _ e2⟩ ⟨?_, hfg, fun p most hs => ?_, by decide, ?_, fun _ => ?_⟩ (s13 _ _ ef) (hfr.mono (Kn.same s13)) (by rw [List.append_nil]; exact s13 _ _ ew) (Kf.same s13)
    · exact hgood.1
    · rw [List.append_nil]; exact hs
    · show 0 + frw fr ≤ 4 * 1 + 1 + frw fr + 257 * 0; omega
    · show 0 + frw fr < 4 * 1 + 1 + frw fr; omega
  | one k x =>
    obtain ⟨c1, x1, x2, rfl, ec, t1, t2⟩ := Tp.two (d := .str k.word) (e := x.data) tp'
    rw [t1.str_inv] at ec
    have hcf : c1 ≠ fl := by rintro rfl; rw [ec] at ef; cases ef
    have no : ∀ s ∈ [("shut" : Str), "number", "pair", "name", "let", "fun"], k.word ≠ s := by cases k <;> decide
    iterate 6
      walk_at "gg"
      try refine g_F (decide_eq_false (no _ (by simp))) ?_
    walk_at "gg"
    rename_i t2' H2 n2 e2 s2
    refine g_append (s2 _ _ ef) (by show _ < 16777216; omega) ?_
    walk_at "gg"
    rename_i H3 e3 c3 t4 H4 n4 e4 s4 t5 H5 n5 e5 s5
    have k15 : Kf fl wl H H5 := fun b o n m eb => s5 _ _ (s4 _ _ (c3 _ _ n (s2 _ _ eb)))
    have kn := k15.kn ef ew
    have hf2 : (Frm.part (.one k x) e).good P := ⟨hgood, trivial⟩
    have hsx : (Part.one k x).size = 1 + x.size := rfl
    refine q t5 _ _ (.ev ⟨x, e⟩) (fr ++ [.part (.one k x) e]) (us ++ [.ref t2']) [] H5 e5 ⟨⟨t4, _, _, rfl, s5 _ _ e4, t2.mono kn.tk, hr'.mono kn⟩, rfl⟩ ⟨⟨hgood.1, by show e.wid + x.size ≤ 64; omega, hgood.2.2⟩, ?_, fun p most hs => ?_, by decide, ?_, fun _ => ?_⟩ (s5 _ _ (s4 _ _ e3)) ((hfr.mono kn).snoc ?_) (by rw [List.append_nil]; exact s5 _ _ (s4 _ _ (c3 _ _ hne.symm (s2 _ _ ew)))) k15
    · intro f hf
      rcases List.mem_append.mp hf with hf | hf
      · exact hfg f hf
      · rw [List.mem_singleton.mp hf]; exact hf2
    · rw [List.append_nil, wholes_snoc]; exact hs
    · rw [frw_snoc]; show 4 * x.size + 1 + (frw fr + 3) ≤ 4 * (1 + x.size) + 1 + frw fr + 257 * 0; omega
    · rw [frw_snoc]; show 4 * x.size + 1 + (frw fr + 3) < 4 * (1 + x.size) + 1 + frw fr; omega
    · exact ⟨t2', _, _, rfl, s5 _ _ (s4 _ _ (c3 _ _ (by rintro rfl; rw [s2 _ _ ef] at e2; cases e2) e2)), tp'.mono kn.tk, hr'.mono kn⟩
  | whn x y z =>
    obtain ⟨c1, xs3, rfl, ec, txs⟩ := Tp.part (p := .whn x y z) tp'
    obtain ⟨x2, r2, rfl, t2, txs2⟩ := Tps.cons_inv (show Tps H xs3 [x.data, y.data, z.data] from txs)
    obtain ⟨x3, r3, rfl, t3, txs3⟩ := txs2.cons_inv
    obtain ⟨x4, r4, rfl, t4', txs4⟩ := txs3.cons_inv
    rw [txs4.nil_inv] at ec
    have hcf : c1 ≠ fl := by rintro rfl; rw [ec] at ef; cases ef
    have no : ∀ s ∈ [("shut" : Str), "number", "pair", "name", "let", "fun"], ("when" : Str) ≠ s := by decide
    iterate 6
      walk_at "gg"
      try refine g_F (by decide) ?_
    walk_at "gg"
    rename_i t2' H2 n2 e2 s2
    refine g_append (s2 _ _ ef) (by show _ < 16777216; omega) ?_
    walk_at "gg"
    rename_i H3 e3 c3 t4 H4 n4 e4 s4 t5 H5 n5 e5 s5
    have k15 : Kf fl wl H H5 := fun b o n m eb => s5 _ _ (s4 _ _ (c3 _ _ n (s2 _ _ eb)))
    have kn := k15.kn ef ew
    have hf2 : (Frm.part (.whn x y z) e).good P := ⟨hgood, trivial⟩
    have hsx : (Part.whn x y z).size = 1 + (x.size + (y.size + z.size)) := rfl
    refine q t5 _ _ (.ev ⟨x, e⟩) (fr ++ [.part (.whn x y z) e]) (us ++ [.ref t2']) [] H5 e5 ⟨⟨t4, _, _, rfl, s5 _ _ e4, t2.mono kn.tk, hr'.mono kn⟩, rfl⟩ ⟨⟨hgood.1.1, by show e.wid + x.size ≤ 64; omega, hgood.2.2⟩, ?_, fun p most hs => ?_, by decide, ?_, fun _ => ?_⟩ (s5 _ _ (s4 _ _ e3)) ((hfr.mono kn).snoc ?_) (by rw [List.append_nil]; exact s5 _ _ (s4 _ _ (c3 _ _ hne.symm (s2 _ _ ew)))) k15
    · intro f hf
      rcases List.mem_append.mp hf with hf | hf
      · exact hfg f hf
      · rw [List.mem_singleton.mp hf]; exact hf2
    · rw [List.append_nil, wholes_snoc]; exact hs
    · rw [frw_snoc]; show 4 * x.size + 1 + (frw fr + 3) ≤ 4 * (1 + (x.size + (y.size + z.size))) + 1 + frw fr + 257 * 0; omega
    · rw [frw_snoc]; show 4 * x.size + 1 + (frw fr + 3) < 4 * (1 + (x.size + (y.size + z.size))) + 1 + frw fr; omega
    · exact ⟨t2', _, _, rfl, s5 _ _ (s4 _ _ (c3 _ _ (by rintro rfl; rw [s2 _ _ ef] at e2; cases e2) e2)), tp'.mono kn.tk, hr'.mono kn⟩
  | two k x z =>
    by_cases hkp : k = .pair
    · subst hkp
      obtain ⟨c1, x1, x2, x3, rfl, ec, t1, t2, t3'⟩ := Tp.three (d := .str "pair") (e := x.data) (f := z.data) tp'
      rw [t1.str_inv] at ec
      walk_at "gg"
      rename_i a2 H2 n2 e2 s2 a3 H3 n3 e3 s3 a4 H4 n4 e4 s4 a5 H5 n5 e5 s5
      have s15 : Same H H5 := s2.trans (s3.trans (s4.trans s5))
      have hsx : (Part.two .pair x z).size = 1 + (x.size + z.size) := rfl
      have g1 : (Clo.mk x e).good P.names := ⟨hgood.1.1, by show e.wid + x.size ≤ 64; omega, hgood.2.2⟩
      have g2 : (Clo.mk z e).good P.names := ⟨hgood.1.2, by show e.wid + z.size ≤ 64; omega, hgood.2.2⟩
      refine q a5 _ _ (.rt (.pair x z e)) fr us [] H5 e5 ⟨a4, _, _, rfl, s5 _ _ e4, ⟨a2, _, _, rfl, s5 _ _ (s4 _ _ (s3 _ _ e2)), t2.mono (Same.tk s15), hr'.mono (Kn.same s15)⟩, ⟨a3, _, _, rfl, s5 _ _ (s4 _ _ e3), t3'.mono (Same.tk s15), hr'.mono (Kn.same s15)⟩⟩ ⟨⟨g1, g2⟩, hfg, fun p most hs => ?_, by decide, ?_, fun _ => ?_⟩ (s15 _ _ ef) (hfr.mono (Kn.same s15)) (by rw [List.append_nil]; exact s15 _ _ ew) (Kf.same s15)
      · rw [List.append_nil]; exact hs
      · show 0 + frw fr ≤ 4 * (1 + (x.size + z.size)) + 1 + frw fr + 257 * 0; omega
      · show 0 + frw fr < 4 * (1 + (x.size + z.size)) + 1 + frw fr; omega
    obtain ⟨c1, x1, x2, x3, rfl, ec, t1, t2, t3'⟩ := Tp.three (d := .str k.word) (e := x.data) (f := z.data) tp'
    rw [t1.str_inv] at ec
    have hcf : c1 ≠ fl := by rintro rfl; rw [ec] at ef; cases ef
    have no : ∀ s ∈ [("shut" : Str), "number", "pair", "name", "let", "fun"], k.word ≠ s := by cases k <;> first | decide | exact absurd rfl hkp
    iterate 6
      walk_at "gg"
      try refine g_F (decide_eq_false (no _ (by simp))) ?_
    walk_at "gg"
    rename_i t2' H2 n2 e2 s2
    refine g_append (s2 _ _ ef) (by show _ < 16777216; omega) ?_
    walk_at "gg"
    rename_i H3 e3 c3 t4 H4 n4 e4 s4 t5 H5 n5 e5 s5
    have k15 : Kf fl wl H H5 := fun b o n m eb => s5 _ _ (s4 _ _ (c3 _ _ n (s2 _ _ eb)))
    have kn := k15.kn ef ew
    have hf2 : (Frm.part (.two k x z) e).good P := ⟨hgood, hkp⟩
    have hsx : (Part.two k x z).size = 1 + (x.size + z.size) := rfl
    refine q t5 _ _ (.ev ⟨x, e⟩) (fr ++ [.part (.two k x z) e]) (us ++ [.ref t2']) [] H5 e5 ⟨⟨t4, _, _, rfl, s5 _ _ e4, t2.mono kn.tk, hr'.mono kn⟩, rfl⟩ ⟨⟨hgood.1.1, by show e.wid + x.size ≤ 64; omega, hgood.2.2⟩, ?_, fun p most hs => ?_, by decide, ?_, fun _ => ?_⟩ (s5 _ _ (s4 _ _ e3)) ((hfr.mono kn).snoc ?_) (by rw [List.append_nil]; exact s5 _ _ (s4 _ _ (c3 _ _ hne.symm (s2 _ _ ew)))) k15
    · intro f hf
      rcases List.mem_append.mp hf with hf | hf
      · exact hfg f hf
      · rw [List.mem_singleton.mp hf]; exact hf2
    · rw [List.append_nil, wholes_snoc]; exact hs
    · rw [frw_snoc]; show 4 * x.size + 1 + (frw fr + (4 * z.size + 3)) ≤ 4 * (1 + (x.size + z.size)) + 1 + frw fr + 257 * 0; omega
    · rw [frw_snoc]; show 4 * x.size + 1 + (frw fr + (4 * z.size + 3)) < 4 * (1 + (x.size + z.size)) + 1 + frw fr; omega
    · exact ⟨t2', _, _, rfl, s5 _ _ (s4 _ _ (c3 _ _ (by rintro rfl; rw [s2 _ _ ef] at e2; cases e2) e2)), tp'.mono kn.tk, hr'.mono kn⟩
  | name x =>
    obtain ⟨c1, x1, x2, rfl, ec, t1, t2⟩ := Tp.two (d := .str "name") (e := .str x) tp'
    rw [t1.str_inv, t2.str_inv] at ec
    obtain ⟨⟨b, q1, e1⟩, hlk⟩ := GEnv.look_dom (e := e) hgood.1
    obtain ⟨dk, kvs, rfl, edk, hdk⟩ := hr'.out
    have hx := hdk.2 x
    rw [hlk] at hx
    obtain ⟨t9, a9, v9, ev, et9, ta9, hr9⟩ := hx
    have hgl := GEnv.look_good hgood.2.2 hlk
    have hdw : dk ≠ wl := by rintro rfl; rw [edk] at ew; cases ew
    have htw : t9 ≠ wl := by rintro rfl; rw [et9] at ew; cases ew
    have hcw : c1 ≠ wl := by rintro rfl; rw [ec] at ew; cases ew
    walk_at "gg"
    rename_i l2 H2 n2 e2 s2
    refine g_ixD (s2 _ _ edk) (k := .inr x) rfl ev ?_
    walk_at "gg"
    have hcut : cutV [.str "open", .str "let"] none (some (1 + if b = true then 1 else 0)) = ((if b = true then ["open", "let"] else ["open"]) : List Str).map V.str := by cases b <;> rfl
    have hlen : ((if b = true then ["open", "let"] else ["open"]) : List Str).length ≤ 2 := by cases b <;> decide
    refine g_slL (SqL.of e2) ?_
    walk_at "gg"
    rename_i l3 H3 n3 e3 s3
    rw [hcut] at e3
    refine g_extend (s3 _ _ (s2 _ _ ew)) e3 (by simp only [List.length_map]; show _ ≤ 16777216; omega) ?_
    walk_at "gg"
    rename_i H4 e4 c4
    refine g_ixD (c4 _ _ hdw (s3 _ _ (s2 _ _ edk))) (k := .inr x) rfl ev ?_
    walk_at "gg"
    refine g_slTT (c4 _ _ htw (s3 _ _ (s2 _ _ et9))) fun t5 H5 e5 s5 => ?_
    walk_at "gg"
    rename_i t6 H6 n6 e6 s6
    have e5' : H5 t5 = some (.tup [a9, v9]) := e5
    have k16 : Kf fl wl H H6 := fun b o n m eb => s6 _ _ (s5 _ _ (c4 _ _ m (s3 _ _ (s2 _ _ eb))))
    have kn := k16.kn ef ew
    refine q t6 _ _ (.ev ⟨q1, e1⟩) fr us (if b = true then ["open", "let"] else ["open"]) H6 e6 ⟨⟨t5, _, _, rfl, s6 _ _ e5', ta9.mono kn.tk, hr9.mono kn⟩, rfl⟩ ⟨hgl, hfg, fun p most hs => mv_name hfg hgood.2.2 hlk hs, hlen, ?_, fun z => by cases b <;> cases z⟩ (s6 _ _ (s5 _ _ (c4 _ _ hne (s3 _ _ (s2 _ _ ef))))) (hfr.mono kn) ?_ k16
    · have hl1 : 1 ≤ ((if b = true then ["open", "let"] else ["open"]) : List Str).length := by cases b <;> decide
      have h2 := hgl.2.1
      show 4 * q1.size + 1 + frw fr ≤ _ + frw fr + 257 * _
      omega
    · rw [List.map_append]
      exact s6 _ _ (s5 _ _ e4)
  | fn f =>
    obtain ⟨c1, x1, x2, rfl, ec, t1, t2⟩ := Tp.two (d := .str "fun") (e := .str f) tp'
    rw [t1.str_inv, t2.str_inv] at ec
    have hfm : f ∈ P.names := hgood.1
    have hcw : c1 ≠ wl := by rintro rfl; rw [ec] at ew; cases ew
    walk_at "gg"
    refine ⟨v, P, f, rfl, tP, hfine, hfm, fun H2 s2 => ?_⟩
    walk_at "gg"
    by_cases h0 : P.wantsOf f = 0
    · refine g_T (decide_eq_true (by omega)) ?_
      walk_at "gg"
      refine g_append (s2 _ _ ew) hwl2 ?_
      walk_at "gg"
      rename_i H3 e3 c3 g4 H4 n4 e4 s4
      have k24 : Kf fl wl H2 H4 := fun b o n m eb => s4 _ _ (c3 _ _ m eb)
      have k04 : Kf fl wl H H4 := (Kf.same s2).trans k24
      have kn4 := k04.kn ef ew
      refine ⟨v, P, f, g4, [], [], rfl, tP.mono kn4.tk, hfine, hfm, e4, .nil, h0.symm, fun v' H5 hc s5 => ?_⟩
      walk_at "gg"
      rename_i t6 H6 n6 e6 s6
      have k46 := s5.trans s6
      have kf := k04.trans (Kf.same k46)
      have kn := kf.kn ef ew
      have hg := call_good (gs := []) hfine hfm (fun g hg => by simp at hg) h0.symm
      refine q t6 _ _ (.ev ⟨P.bodyOf f, callE ((P.thingsOf f).zip []) .nil⟩) fr us ["call"] H6 e6 ⟨hc.mono (Kn.same s6), rfl⟩ ⟨hg, hfg, fun p most hs => mv_fn0 hfg h0 hs, by decide, ?_, fun z => by cases z⟩ (k46 _ _ (s4 _ _ (c3 _ _ hne (s2 _ _ ef)))) (hfr.mono kn) ?_ kf
      · have := hg.2.1
        show 4 * (P.bodyOf f).size + 1 + frw fr ≤ _ + frw fr + 257 * 1
        have hw : (callE ((P.thingsOf f).zip []) GEnv.nil).wid + (P.bodyOf f).size ≤ 64 := this
        omega
      · rw [List.map_append]
        exact s6 _ _ (s5 _ _ (s4 _ _ e3))
    · refine g_F (decide_eq_false (by omega)) ?_
      walk_at "gg"
      rename_i g3 H3 n3 e3 s3 t4 H4 n4 e4 s4 t5 H5 n5 e5 s5
      have s25 := s2.trans (s3.trans (s4.trans s5))
      have hgf : g3 ≠ fl := (ne_of_none (s2 _ _ ef) n3).symm
      have hgw : g3 ≠ wl := (ne_of_none (s2 _ _ ew) n3).symm
      have hlt : 0 < P.wantsOf f := by omega
      refine q t5 _ _ (.rt (.fn f [])) fr us [] H5 e5 ⟨t4, g3, [], rfl, s5 _ _ e4, s5 _ _ (s4 _ _ e3), hgf, hgw, .nil⟩ ⟨⟨hfm, hlt, fun g hg => by simp at hg⟩, hfg, fun p most hs => ?_, by decide, ?_, fun _ => ?_⟩ (s25 _ _ ef) (hfr.mono (Kn.same s25)) (by rw [List.append_nil]; exact s25 _ _ ew) (Kf.same s25)
      · rw [List.append_nil]; exact hs
      · show 0 + frw fr ≤ 4 * 1 + 1 + frw fr + 257 * 0; omega
      · show 0 + frw fr < 4 * 1 + 1 + frw fr; omega
  | letp r a =>
    obtain ⟨c1, x1, x2, x3, rfl, ec, t1, t2, t3⟩ := Tp.three (d := .str "let") (e := .tuple r.datas) (f := a.data) tp'
    rw [t1.str_inv] at ec
    obtain ⟨ra, rs, rfl, er, tr⟩ := t2.tup_inv
    have hrl : rs.length = r.list.length := by rw [tr.length, Rows.list_datas, List.length_map]
    have hll := r.list_len
    have hnl : r.list.length = r.names.length := by rw [Rows.list_names, List.length_map]
    have hsx : (Part.letp r a).size = 1 + (r.size + a.size) := rfl
    have hnd : r.names.Nodup := hgood.1.1
    obtain ⟨dk, kvs0, rfl, edk, hdk⟩ := hr'.out
    have hdw : dk ≠ wl := by rintro rfl; rw [edk] at ew; cases ew
    have hrw : ra ≠ wl := by rintro rfl; rw [er] at ew; cases ew
    have hcw : c1 ≠ wl := by rintro rfl; rw [ec] at ew; cases ew
    walk_at "gg"
    refine g_append ew hwl2 ?_
    walk_at "gg"
    rename_i H1 e1 c1' inn H2 n2 e2 s2
    refine g_seqT ?_
    walk_at "gg"
    have k12 : Kf fl wl H H2 := fun b o n m eb => s2 _ _ (c1' _ _ m eb)
    have kn2 := k12.kn ef ew
    have er2 : H2 ra = some (.tup rs) := s2 _ _ (c1' _ _ hrw er)
    have hra : ra ≠ inn := by rintro rfl; rw [e2] at er2; cases er2
    have tr2 := tr.mono kn2.tk
    have hinn : H inn = none := by
      cases h : H inn with
      | none => rfl
      | some o =>
        by_cases hx : inn = wl
        · subst hx; rw [n2] at e1; cases e1
        · have := c1' _ _ hx h; rw [n2] at this; cases this
    refine for_T (xs := rs) (fun i σ H' => ∃ (x7 x8 : Option V) (kvs : List (Key × V)), σ = [some v, some (.ref t), some (.ref fl), some (.ref wl), some (.ref c1), some (.ref dk), some (.ref inn), x7, x8] ∧
      H' inn = some (.dK kvs) ∧ kvs.length ≤ e.wid + i ∧ (∀ (j : Nat) q, j < i → r.list[j]? = some q → ∃ t u, valV kvs (.inr q.1) = some (.ref t) ∧ H' t = some (.tup [u, .ref inn, .bl true]) ∧ Tp H' u q.2.data) ∧
      (∀ x, (∀ (j : Nat) q, j < i → r.list[j]? = some q → q.1 ≠ x) → valV kvs (.inr x) = valV kvs0 (.inr x)) ∧ Chg inn H2 H') ?_ ?_ ?_ ?_
    · rintro i σ H' ⟨_, _, _, _, _, _, _, _, c⟩
      exact c _ _ hra er2
    · exact ⟨_, _, kvs0, rfl, e2, hdk.1, fun j q hj => absurd hj (Nat.not_lt_zero _), fun x _ => rfl, Chg.refl⟩
    · rintro i x σ H3 hx ⟨x7, x8, kvs, rfl, e3, hlk, hin, hout, c3⟩
      obtain ⟨q1, c, u, hq, rfl, ec3, tu⟩ := Rows.list_at tr2 hx
      have hci : c ≠ inn := by rintro rfl; rw [e2] at ec3; cases ec3
      have ec3' := c3 _ _ hci ec3
      have k23 : Tk H2 H3 := c3.tk fun xs z => by rw [e2] at z; cases z
      have tu3 := tu.mono k23
      have hil := (List.getElem?_eq_some_iff.mp hq).1
      walk_at "gg"
      rename_i t4 H4 n4 e4 s4
      refine g_setK (k := .inr q1.1) (s4 _ _ e3) rfl (by show _ < 16777216; omega) ?_
      walk_at "gg"
      rename_i H5 e5 c5
      have k45 : Tk H4 H5 := c5.tk fun xs z => by rw [s4 _ _ e3] at z; cases z
      have k35 : Tk H3 H5 := (Same.tk s4).trans k45
      refine ⟨_, _, _, rfl, e5, ?_, ?_, ?_, c3.trans ((Chg.same s4).trans c5)⟩
      · have := length_putK kvs (.inr q1.1) (.ref t4)
        omega
      · intro j q hj hq'
        rw [valV_put]
        by_cases hji : j = i
        · subst hji
          rw [hq] at hq'
          cases hq'
          exact ⟨t4, u, by simp, k45 _ _ e4, tu3.mono k35⟩
        · obtain ⟨t0, u0, g1, g2, g3⟩ := hin j q (by omega) hq'
          refine ⟨t0, u0, ?_, k35 _ _ g2, g3.mono k35⟩
          have hne' : q.1 ≠ q1.1 := by
            intro he
            have h1 : r.names[j]? = some q.1 := by rw [Rows.list_names, List.getElem?_map, hq']; rfl
            have h2 : r.names[i]? = some q1.1 := by rw [Rows.list_names, List.getElem?_map, hq]; rfl
            obtain ⟨k1, k2⟩ := List.getElem?_eq_some_iff.mp h1
            obtain ⟨k3, k4⟩ := List.getElem?_eq_some_iff.mp h2
            exact absurd (k2.trans (he.trans k4.symm)) ((List.pairwise_iff_getElem.mp hnd) j i k1 k3 (by omega))
          have hk : ¬ ((.inr q1.1 : Key) = .inr q.1) := fun z => hne' (Sum.inr.inj z).symm
          have hk' : ¬ ((.inr q.1 : Key) = .inr q1.1) := fun z => hne' (Sum.inr.inj z)
          first
          | (rw [if_neg hk]; exact g1)
          | (rw [if_neg hk']; exact g1)
      · intro x hx'
        rw [valV_put]
        have hne' : q1.1 ≠ x := hx' i q1 (Nat.lt_succ_self i) hq
        have hk : ¬ ((.inr q1.1 : Key) = .inr x) := fun z => hne' (by cases z; rfl)
        have hk' : ¬ ((.inr x : Key) = .inr q1.1) := fun z => hne' (by cases z; rfl)
        have h9 := hout x fun j q hj => hx' j q (by omega)
        first
        | (rw [if_neg hk]; exact h9)
        | (rw [if_neg hk']; exact h9)
    · rintro σ H3 ⟨x7, x8, kvs, rfl, e3, hlk, hin, hout, c3⟩
      have hci : c1 ≠ inn := by rintro rfl; rw [hinn] at ec; cases ec
      have ec3 : H3 c1 = some (.tup [.str "let", .ref ra, x3]) := c3 _ _ hci (kn2.tk _ _ ec)
      walk_at "gg"
      rename_i t4 H4 n4 e4 s4 t5 H5 n5 e5 s5
      have s35 := s4.trans s5
      have kf : Kf fl wl H H5 := fun b o n m eb => s35 _ _ (c3 _ _ (by rintro rfl; rw [hinn] at eb; cases eb) (k12 _ _ n m eb))
      have kn := kf.kn ef ew
      have hg := fun p most hs => mv_let (fr := fr) (p := p) (most := most) (ws := ws) hfg hgood hs
      have hgg : (Clo.mk a (.rows r e)).good P.names := by
        obtain ⟨⟨g1, g2, g3, g4⟩, g5, g6⟩ := hgood
        have g5' : e.wid + (1 + (r.size + a.size)) ≤ 64 := g5
        have g7 := r.names_size
        exact ⟨g4, by show r.names.length + e.wid + a.size ≤ 64; omega, g6, g1, g2, g3, by omega⟩
      have hfl : fl ≠ inn := by rintro rfl; rw [hinn] at ef; cases ef
      have hwi : wl ≠ inn := by rintro rfl; rw [hinn] at ew; cases ew
      refine q t5 _ _ (.ev ⟨a, .rows r e⟩) fr us ["let"] H5 e5 ⟨⟨t4, _, _, rfl, s5 _ _ e4, t3.mono kn.tk, ?_⟩, rfl⟩ ⟨hgg, hfg, fun p most hs => (mv_let hfg hgood hs).1, by decide, ?_, fun z => by cases z⟩ (s35 _ _ (c3 _ _ hfl (s2 _ _ (c1' _ _ hne ef)))) (hfr.mono kn) ?_ kf
      · refine RealA.rows (s35 _ _ e3) (hdk.mono kn) (by omega) (fun q hq => ?_) fun x hx => hout x fun j q hj hq hqx => hx ?_
        · obtain ⟨j, hj⟩ := List.mem_iff_getElem?.mp hq
          obtain ⟨t0, u0, g1, g2, g3⟩ := hin j q (by have := (List.getElem?_eq_some_iff.mp hj).1; omega) hj
          exact ⟨t0, u0, g1, s35 _ _ g2, g3.mono (Same.tk s35)⟩
        · rw [Rows.list_names, ← hqx]
          exact List.mem_map_of_mem (List.mem_of_getElem? hq)
      · show 4 * a.size + 1 + frw fr ≤ 4 * (1 + (r.size + a.size)) + 1 + frw fr + 257 * 1
        omega
      · rw [List.map_append]
        exact s35 _ _ (c3 _ _ hwi (s2 _ _ e1))

/-! ### the law's machine, walked outward -/
def kvO : List (Key × V) := [(.inr "give", .str "function"), (.inr "left", .str "pair"), (.inr "right", .str "pair")]
def spLOut : Sp := fun vs H Q _ => ∃ (v u y : V) (fl wl : Addr) (P : Prog) (f : Frm) (w : Wth) (fr : List Frm) (us : List V) (ws : List Str), vs = [v, u, y, .ref fl, .ref wl] ∧ Tp H v P.data ∧ P.fine ∧ FrmAt H u f ∧ f.good P ∧ WthAt H fl wl y w ∧ w.good P ∧ H fl = some (.lst us) ∧ Frms H us fr ∧ (∀ f ∈ fr, f.good P) ∧ us.length ≤ 1000000 ∧ H wl = some (.lst (ws.map V.str)) ∧ ws.length ≤ 1000 ∧ fl ≠ wl ∧
  (∀ (r : Addr) (x y : V) (st' : MSt) (fr' : List Frm) (us' : List V) (ws' : List Str) (H' : Hp), H' r = some (.tup [x, y, .str ""]) → StAt H' fl wl x y st' → Mv P (.rt w) (fr ++ [f]) st' fr' ws ws' → H' fl = some (.lst us') → Frms H' us' fr' → H' wl = some (.lst ((ws ++ ws').map V.str)) → Kf fl wl H H' → Q (.ref r) H') ∧
  (∀ (r : Addr) (wd : Str) (H' : Hp), H' r = some (.tup [.non, .non, .str wd]) → wd ≠ "" → (∀ p most, Sim P p most (wholes (fr ++ [f]) w.part) ws → ws.length ≤ most → runM P most p = (.fault wd, ws)) → Same H H' → Q (.ref r) H')
theorem pure_lout {K : PySem.W.Frag} {w : World} : PureOk 5 spLOut (t_law_out K w spLSecond spLWants spLCalled) 8 := by
  refine ⟨fun vs H Q E ⟨_, _, _, _, _, _, _, _, _, _, _, e, _⟩ => by rw [e]; rfl, ?_⟩
  rintro vs H Q E ⟨v, u, y, fl, wl, P, f, wt, fr, us, ws, rfl, tP, hfine, hf, hfg, hw, hwg, ef, hfr, hfrg, hul, ew, hwl, hne, q1, q2⟩
  show t_law_out K w _ _ _ _ [some v, some u, some y, some (.ref fl), some (.ref wl), none, none, none] H
  unfold t_law_out
  have hwl2 : (ws.map V.str).length < 16777216 := by rw [List.length_map]; omega
  cases f with
  | second k n =>
    obtain ⟨t, s, d, rfl, et, es⟩ := hf
    walk_at "gg"
    refine ⟨k, n, y, fl, wl, wt, P, _, rfl, hfg.1, hfg.2, hw, hwg, ew, by rw [List.length_map]; exact hwl, ?_, ?_, ?_⟩
    · intro hn r H' er s
      exact q2 r "number" H' er (by decide) (fun p most hs hm => mv_second_no hfrg hfg.1 hwg hn hs hm) s
    · intro m hm hb r H' er s
      subst hm
      exact q2 r "great" H' er (by decide) (fun p most hs hm => mv_great hfrg hfg.1 hb hs hm) s
    · intro m hm hb r t' H' er et' ew' c
      subst hm
      have kf : Kf fl wl H H' := fun b o n m eb => c _ _ m eb
      have kn := kf.kn ef ew
      refine q1 r _ _ (.rt (.num (reck k n m))) fr us ["number"] H' er ⟨t', rfl, et'⟩ ⟨hb, hfrg, fun p most hs => mv_second hfrg hfg.1 hb hs, by decide, ?_, fun z => by cases z⟩ (c _ _ hne ef) (hfr.mono kn) (by rw [List.map_append]; exact ew') kf
      rw [frw_snoc]; show 0 + frw fr ≤ 0 + (frw fr + 1) + 257 * 1; omega
  | part p e =>
    obtain ⟨t, a, d, rfl, et, tp, hr⟩ := hf
    have tp' : Tp H a p.data := tp
    have hr' : RealA H d e := hr
    clear tp hr
    have hsz : e.wid + p.size ≤ 64 := hfg.1.2.1
    cases p with
    | one k x =>
      obtain ⟨c1, x1, x2, rfl, ec, t1, t2⟩ := Tp.two (d := .str k.word) (e := x.data) tp'
      rw [t1.str_inv] at ec
      clear tp' t1 t2
      have hcw : c1 ≠ wl := by rintro rfl; rw [ec] at ew; cases ew
      cases wt with
      | pair a2 b2 e2 =>
        obtain ⟨ty, u1, u2, rfl, ety, hu1, hu2⟩ := hw
        have htw : ty ≠ wl := by rintro rfl; rw [ety] at ew; cases ew
        cases k with
        | left =>
          walk_at "gg"
          rename_i a2' H2 n2 e2' s2
          refine g_append (s2 _ _ ew) hwl2 ?_
          walk_at "gg"
          rename_i H3 e3 c3 r4 H4 n4 e4 s4
          have kf : Kf fl wl H H4 := fun b o n m eb => s4 _ _ (c3 _ _ m (s2 _ _ eb))
          have kn := kf.kn ef ew
          have hg2 := hwg.1
          have hz : e2.wid + a2.size ≤ 64 := hg2.2.1
          refine q1 r4 _ _ (.ev ⟨a2, e2⟩) fr us ["side"] H4 e4 ⟨hu1.mono kn, rfl⟩ ⟨hg2, hfrg, fun p most hs => mv_side hfrg hs, by decide, ?_, fun z => by cases z⟩ (s4 _ _ (c3 _ _ hne (s2 _ _ ef))) (hfr.mono kn) (by rw [List.map_append]; exact s4 _ _ e3) kf
          rw [frw_snoc]; show 4 * a2.size + 1 + frw fr ≤ 0 + (frw fr + 3) + 257 * 1; omega
        | right =>
          walk_at "gg"
          rename_i a2' H2 n2 e2' s2
          refine g_append (s2 _ _ ew) hwl2 ?_
          walk_at "gg"
          rename_i H3 e3 c3 r4 H4 n4 e4 s4
          have kf : Kf fl wl H H4 := fun b o n m eb => s4 _ _ (c3 _ _ m (s2 _ _ eb))
          have kn := kf.kn ef ew
          have hg2 := hwg.2
          have hz : e2.wid + b2.size ≤ 64 := hg2.2.1
          refine q1 r4 _ _ (.ev ⟨b2, e2⟩) fr us ["side"] H4 e4 ⟨hu2.mono kn, rfl⟩ ⟨hg2, hfrg, fun p most hs => mv_side hfrg hs, by decide, ?_, fun z => by cases z⟩ (s4 _ _ (c3 _ _ hne (s2 _ _ ef))) (hfr.mono kn) (by rw [List.map_append]; exact s4 _ _ e3) kf
          rw [frw_snoc]; show 4 * b2.size + 1 + frw fr ≤ 0 + (frw fr + 3) + 257 * 1; omega
      | num n =>
        obtain ⟨ty, rfl, ety⟩ := hw
        cases k with
        | left =>
          walk_at "gg"
          rename_i a2 H2 n2 e2 s2 a3 H3 n3 e3 s3 d4 H4 n4 e4 s4
          have s14 := s2.trans (s3.trans s4)
          refine g_pairs kvO e4 rfl (by decide) ?_
          walk_at "gg"
          rename_i H5 e5 c5
          have f5 : Same H H5 := fun b o eb => c5 _ _ (ne_of_none ((s2.trans s3) _ _ eb) n4) (s14 _ _ eb)
          have ec5 := f5 _ _ ec
          clear e2 e3 e4 s2 s3 s4 s14 c5
          refine g_isd e5 ?_
          walk_at "gg"
          refine g_dget (k := .inr "left") e5 rfl ?_
          walk_at "gg"
          rename_i r6 H6 n6 e6 s6
          exact q2 r6 "pair" H6 e6 (by decide) (fun p most hs hm => mv_wrong hfrg hfg.2 hwg rfl hs hm) (f5.trans s6)
        | right =>
          walk_at "gg"
          rename_i a2 H2 n2 e2 s2 a3 H3 n3 e3 s3 d4 H4 n4 e4 s4
          have s14 := s2.trans (s3.trans s4)
          refine g_pairs kvO e4 rfl (by decide) ?_
          walk_at "gg"
          rename_i H5 e5 c5
          have f5 : Same H H5 := fun b o eb => c5 _ _ (ne_of_none ((s2.trans s3) _ _ eb) n4) (s14 _ _ eb)
          have ec5 := f5 _ _ ec
          clear e2 e3 e4 s2 s3 s4 s14 c5
          refine g_isd e5 ?_
          walk_at "gg"
          refine g_dget (k := .inr "right") e5 rfl ?_
          walk_at "gg"
          rename_i r6 H6 n6 e6 s6
          exact q2 r6 "pair" H6 e6 (by decide) (fun p most hs hm => mv_wrong hfrg hfg.2 hwg rfl hs hm) (f5.trans s6)
      | fn g gs =>
        obtain ⟨ty, ga, gus, rfl, ety, ega, hgf, hgw, hgs⟩ := hw
        cases k with
        | left =>
          walk_at "gg"
          rename_i a2 H2 n2 e2 s2 a3 H3 n3 e3 s3 d4 H4 n4 e4 s4
          have s14 := s2.trans (s3.trans s4)
          refine g_pairs kvO e4 rfl (by decide) ?_
          walk_at "gg"
          rename_i H5 e5 c5
          have f5 : Same H H5 := fun b o eb => c5 _ _ (ne_of_none ((s2.trans s3) _ _ eb) n4) (s14 _ _ eb)
          have ec5 := f5 _ _ ec
          clear e2 e3 e4 s2 s3 s4 s14 c5
          refine g_isd e5 ?_
          walk_at "gg"
          refine g_dget (k := .inr "left") e5 rfl ?_
          walk_at "gg"
          rename_i r6 H6 n6 e6 s6
          exact q2 r6 "pair" H6 e6 (by decide) (fun p most hs hm => mv_wrong hfrg hfg.2 hwg rfl hs hm) (f5.trans s6)
        | right =>
          walk_at "gg"
          rename_i a2 H2 n2 e2 s2 a3 H3 n3 e3 s3 d4 H4 n4 e4 s4
          have s14 := s2.trans (s3.trans s4)
          refine g_pairs kvO e4 rfl (by decide) ?_
          walk_at "gg"
          rename_i H5 e5 c5
          have f5 : Same H H5 := fun b o eb => c5 _ _ (ne_of_none ((s2.trans s3) _ _ eb) n4) (s14 _ _ eb)
          have ec5 := f5 _ _ ec
          clear e2 e3 e4 s2 s3 s4 s14 c5
          refine g_isd e5 ?_
          walk_at "gg"
          refine g_dget (k := .inr "right") e5 rfl ?_
          walk_at "gg"
          rename_i r6 H6 n6 e6 s6
          exact q2 r6 "pair" H6 e6 (by decide) (fun p most hs hm => mv_wrong hfrg hfg.2 hwg rfl hs hm) (f5.trans s6)
    | whn x b z =>
      obtain ⟨c1, xs3, rfl, ec, txs⟩ := Tp.part (p := .whn x b z) tp'
      obtain ⟨x2, r2, rfl, t2, txs2⟩ := Tps.cons_inv (show Tps H xs3 [x.data, b.data, z.data] from txs)
      obtain ⟨x3, r3, rfl, t3, txs3⟩ := txs2.cons_inv
      obtain ⟨x4, r4, rfl, t4, txs4⟩ := txs3.cons_inv
      rw [txs4.nil_inv] at ec
      have hsx : (Part.whn x b z).size = 1 + (x.size + (b.size + z.size)) := rfl
      have hcw : c1 ≠ wl := by rintro rfl; rw [ec] at ew; cases ew
      cases wt with
      | num n =>
        obtain ⟨ty, rfl, ety⟩ := hw
        have htw : ty ≠ wl := by rintro rfl; rw [ety] at ew; cases ew
        walk_at "gg"
        rename_i a2 H2 n2 e2 s2 a3 H3 n3 e3 s3
        refine g_append (s3 _ _ (s2 _ _ ew)) hwl2 ?_
        walk_at "gg"
        rename_i H4 e4 c4
        have hc14 := c4 _ _ hcw (s3 _ _ (s2 _ _ ec))
        have hix : atI [.str "when", x2, x3, x4] (2 + if decide (n = 0) = true then 1 else 0) = some (if n = 0 then x4 else x3) := by
          by_cases hn : n = 0
          · rw [if_pos (decide_eq_true hn), if_pos hn]; rfl
          · rw [if_neg (by rw [decide_eq_false hn]; decide), if_neg hn]; rfl
        refine g_ixT (.of hc14) hix ?_
        walk_at "gg"
        rename_i t5 H5 n5 e5 s5 r6 H6 n6 e6 s6
        have kf : Kf fl wl H H6 := fun b o n' m eb => s6 _ _ (s5 _ _ (c4 _ _ m (s3 _ _ (s2 _ _ eb))))
        have kn := kf.kn ef ew
        have hgc : (Clo.mk (if n = 0 then z else b) e).good P.names := by
          have hg := hfg.1
          by_cases hn : n = 0
          · rw [if_pos hn]; exact ⟨hg.1.2.2, by show e.wid + z.size ≤ 64; omega, hg.2.2⟩
          · rw [if_neg hn]; exact ⟨hg.1.2.1, by show e.wid + b.size ≤ 64; omega, hg.2.2⟩
        have htt : Tp H (if n = 0 then x4 else x3) (if n = 0 then z else b).data := by
          by_cases hn : n = 0
          · rw [if_pos hn, if_pos hn]; exact t4
          · rw [if_neg hn, if_neg hn]; exact t3
        have hz' : e.wid + (if n = 0 then z else b).size ≤ 64 := hgc.2.1
        refine q1 r6 _ _ (.ev ⟨if n = 0 then z else b, e⟩) fr us ["turn"] H6 e6 ⟨⟨t5, _, _, rfl, s6 _ _ e5, htt.mono kn.tk, hr'.mono kn⟩, rfl⟩ ⟨hgc, hfrg, fun p most hs => mv_when hfrg hs, by decide, ?_, fun z => by cases z⟩ (s6 _ _ (s5 _ _ (c4 _ _ hne (s3 _ _ (s2 _ _ ef))))) (hfr.mono kn) (by rw [List.map_append]; exact s6 _ _ (s5 _ _ e4)) kf
        rw [frw_snoc]; show 4 * (if n = 0 then z else b).size + 1 + frw fr ≤ 0 + (frw fr + 3) + 257 * 1
        omega
      | pair a2 b2 e2 =>
        obtain ⟨ty, u1, u2, rfl, ety, hu1, hu2⟩ := hw
        walk_at "gg"
        rename_i a2 H2 n2 e2 s2 a3 H3 n3 e3 s3 d4 H4 n4 e4 s4
        have s14 := s2.trans (s3.trans s4)
        refine g_pairs kvO e4 rfl (by decide) ?_
        walk_at "gg"
        rename_i H5 e5 c5
        have f5 : Same H H5 := fun b o eb => c5 _ _ (ne_of_none ((s2.trans s3) _ _ eb) n4) (s14 _ _ eb)
        have ec5 := f5 _ _ ec
        clear e2 e3 e4 s2 s3 s4 s14 c5
        refine g_isd e5 ?_
        walk_at "gg"
        refine g_dget (k := .inr "when") e5 rfl ?_
        walk_at "gg"
        rename_i r6 H6 n6 e6 s6
        exact q2 r6 "number" H6 e6 (by decide) (fun p most hs hm => mv_wrong hfrg hfg.2 hwg rfl hs hm) (f5.trans s6)
      | fn g gs =>
        obtain ⟨ty, ga, gus, rfl, ety, ega, hgf, hgw, hgs⟩ := hw
        walk_at "gg"
        rename_i a2 H2 n2 e2 s2 a3 H3 n3 e3 s3 d4 H4 n4 e4 s4
        have s14 := s2.trans (s3.trans s4)
        refine g_pairs kvO e4 rfl (by decide) ?_
        walk_at "gg"
        rename_i H5 e5 c5
        have f5 : Same H H5 := fun b o eb => c5 _ _ (ne_of_none ((s2.trans s3) _ _ eb) n4) (s14 _ _ eb)
        have ec5 := f5 _ _ ec
        clear e2 e3 e4 s2 s3 s4 s14 c5
        refine g_isd e5 ?_
        walk_at "gg"
        refine g_dget (k := .inr "when") e5 rfl ?_
        walk_at "gg"
        rename_i r6 H6 n6 e6 s6
        exact q2 r6 "number" H6 e6 (by decide) (fun p most hs hm => mv_wrong hfrg hfg.2 hwg rfl hs hm) (f5.trans s6)
    | two k x z =>
      obtain ⟨c1, x1, x2, x3, rfl, ec, t1, t2, t3⟩ := Tp.three (d := .str k.word) (e := x.data) (f := z.data) tp'
      rw [t1.str_inv] at ec
      clear tp' t1
      have hsx : (Part.two k x z).size = 1 + (x.size + z.size) := rfl
      have hcw : c1 ≠ wl := by rintro rfl; rw [ec] at ew; cases ew
      have hkp : k ≠ .pair := hfg.2
      cases wt with
      | num n =>
        obtain ⟨ty, rfl, ety⟩ := hw
        have htw : ty ≠ wl := by rintro rfl; rw [ety] at ew; cases ew
        have htf : ty ≠ fl := by rintro rfl; rw [ety] at ef; cases ef
        have hcf : c1 ≠ fl := by rintro rfl; rw [ec] at ef; cases ef
        cases k with
        | pair => exact absurd rfl hkp
        | give =>
          walk_at "gg"
          rename_i a2 H2 n2 e2 s2 a3 H3 n3 e3 s3 d4 H4 n4 e4 s4
          have s14 := s2.trans (s3.trans s4)
          refine g_pairs kvO e4 rfl (by decide) ?_
          walk_at "gg"
          rename_i H5 e5 c5
          have f5 : Same H H5 := fun b o eb => c5 _ _ (ne_of_none ((s2.trans s3) _ _ eb) n4) (s14 _ _ eb)
          have ec5 := f5 _ _ ec
          clear e2 e3 e4 s2 s3 s4 s14 c5
          refine g_isd e5 ?_
          walk_at "gg"
          refine g_dget (k := .inr "give") e5 rfl ?_
          walk_at "gg"
          rename_i r6 H6 n6 e6 s6
          exact q2 r6 "function" H6 e6 (by decide) (fun p most hs hm => mv_wrong hfrg hfg.2 hwg rfl hs hm) (f5.trans s6)
        | plus =>
          walk_at "gg"
          rename_i a2 H2 n2 e2 s2 a3 H3 n3 e3 s3 a4 H4 n4 e4 s4 d5 H5 n5 e5 s5 t6 H6 n6 e6 s6
          have s15 := s2.trans (s3.trans (s4.trans s5))
          have s16 := s15.trans s6
          refine g_append (s16 _ _ ef) (by show _ < 16777216; omega) ?_
          walk_at "gg"
          rename_i H7 e7 c7 t8 H8 n8 e8 s8 r9 H9 n9 e9 s9
          have kf : Kf fl wl H H9 := fun b o n' m eb => s9 _ _ (s8 _ _ (c7 _ _ n' (s16 _ _ eb)))
          have kn := kf.kn ef ew
          have ht6 : t6 ≠ fl := (ne_of_none (s15 _ _ ef) n6).symm
          have ha4 : a4 ≠ fl := (ne_of_none (s3 _ _ (s2 _ _ ef)) n4).symm
          have hsg : (Frm.second .plus n).good P := ⟨rfl, hwg⟩
          refine q1 r9 _ _ (.ev ⟨z, e⟩) (fr ++ [.second .plus n]) (us ++ [.ref t6]) [] H9 e9 ⟨⟨t8, _, _, rfl, s9 _ _ e8, t3.mono kn.tk, hr'.mono kn⟩, rfl⟩ ⟨⟨hfg.1.1.2, by show e.wid + z.size ≤ 64; omega, hfg.1.2.2⟩, ?_, fun p most hs => ?_, by decide, ?_, fun _ => ?_⟩ (s9 _ _ (s8 _ _ e7)) (Frms.snoc (c := .second _ n) (hfr.mono kn) ⟨t6, a4, _, rfl, s9 _ _ (s8 _ _ (c7 _ _ ht6 e6)), s9 _ _ (s8 _ _ (c7 _ _ ha4 (s6 _ _ (s5 _ _ e4))))⟩)
            (by rw [List.append_nil]; exact s9 _ _ (s8 _ _ (c7 _ _ hne.symm (s16 _ _ ew)))) kf
          · intro f hf
            rcases List.mem_append.mp hf with hf | hf
            · exact hfrg f hf
            · rw [List.mem_singleton.mp hf]; exact hsg
          · rw [List.append_nil]
            show Sim P p most (wholes (fr ++ [.second .plus n]) (Clo.mk z e).whole) ws
            rw [← op_part (a := x)]
            exact hs
          · rw [frw_snoc, frw_snoc]; show 4 * z.size + 1 + (frw fr + 1) ≤ 0 + (frw fr + (4 * z.size + 3)) + 257 * 0; omega
          · rw [frw_snoc, frw_snoc]; show 4 * z.size + 1 + (frw fr + 1) < 0 + (frw fr + (4 * z.size + 3)); omega
        | less =>
          walk_at "gg"
          rename_i a2 H2 n2 e2 s2 a3 H3 n3 e3 s3 a4 H4 n4 e4 s4 d5 H5 n5 e5 s5 t6 H6 n6 e6 s6
          have s15 := s2.trans (s3.trans (s4.trans s5))
          have s16 := s15.trans s6
          refine g_append (s16 _ _ ef) (by show _ < 16777216; omega) ?_
          walk_at "gg"
          rename_i H7 e7 c7 t8 H8 n8 e8 s8 r9 H9 n9 e9 s9
          have kf : Kf fl wl H H9 := fun b o n' m eb => s9 _ _ (s8 _ _ (c7 _ _ n' (s16 _ _ eb)))
          have kn := kf.kn ef ew
          have ht6 : t6 ≠ fl := (ne_of_none (s15 _ _ ef) n6).symm
          have ha4 : a4 ≠ fl := (ne_of_none (s3 _ _ (s2 _ _ ef)) n4).symm
          have hsg : (Frm.second .less n).good P := ⟨rfl, hwg⟩
          refine q1 r9 _ _ (.ev ⟨z, e⟩) (fr ++ [.second .less n]) (us ++ [.ref t6]) [] H9 e9 ⟨⟨t8, _, _, rfl, s9 _ _ e8, t3.mono kn.tk, hr'.mono kn⟩, rfl⟩ ⟨⟨hfg.1.1.2, by show e.wid + z.size ≤ 64; omega, hfg.1.2.2⟩, ?_, fun p most hs => ?_, by decide, ?_, fun _ => ?_⟩ (s9 _ _ (s8 _ _ e7)) (Frms.snoc (c := .second _ n) (hfr.mono kn) ⟨t6, a4, _, rfl, s9 _ _ (s8 _ _ (c7 _ _ ht6 e6)), s9 _ _ (s8 _ _ (c7 _ _ ha4 (s6 _ _ (s5 _ _ e4))))⟩)
            (by rw [List.append_nil]; exact s9 _ _ (s8 _ _ (c7 _ _ hne.symm (s16 _ _ ew)))) kf
          · intro f hf
            rcases List.mem_append.mp hf with hf | hf
            · exact hfrg f hf
            · rw [List.mem_singleton.mp hf]; exact hsg
          · rw [List.append_nil]
            show Sim P p most (wholes (fr ++ [.second .less n]) (Clo.mk z e).whole) ws
            rw [← op_part (a := x)]
            exact hs
          · rw [frw_snoc, frw_snoc]; show 4 * z.size + 1 + (frw fr + 1) ≤ 0 + (frw fr + (4 * z.size + 3)) + 257 * 0; omega
          · rw [frw_snoc, frw_snoc]; show 4 * z.size + 1 + (frw fr + 1) < 0 + (frw fr + (4 * z.size + 3)); omega
        | times =>
          walk_at "gg"
          rename_i a2 H2 n2 e2 s2 a3 H3 n3 e3 s3 a4 H4 n4 e4 s4 d5 H5 n5 e5 s5 t6 H6 n6 e6 s6
          have s15 := s2.trans (s3.trans (s4.trans s5))
          have s16 := s15.trans s6
          refine g_append (s16 _ _ ef) (by show _ < 16777216; omega) ?_
          walk_at "gg"
          rename_i H7 e7 c7 t8 H8 n8 e8 s8 r9 H9 n9 e9 s9
          have kf : Kf fl wl H H9 := fun b o n' m eb => s9 _ _ (s8 _ _ (c7 _ _ n' (s16 _ _ eb)))
          have kn := kf.kn ef ew
          have ht6 : t6 ≠ fl := (ne_of_none (s15 _ _ ef) n6).symm
          have ha4 : a4 ≠ fl := (ne_of_none (s3 _ _ (s2 _ _ ef)) n4).symm
          have hsg : (Frm.second .times n).good P := ⟨rfl, hwg⟩
          refine q1 r9 _ _ (.ev ⟨z, e⟩) (fr ++ [.second .times n]) (us ++ [.ref t6]) [] H9 e9 ⟨⟨t8, _, _, rfl, s9 _ _ e8, t3.mono kn.tk, hr'.mono kn⟩, rfl⟩ ⟨⟨hfg.1.1.2, by show e.wid + z.size ≤ 64; omega, hfg.1.2.2⟩, ?_, fun p most hs => ?_, by decide, ?_, fun _ => ?_⟩ (s9 _ _ (s8 _ _ e7)) (Frms.snoc (c := .second _ n) (hfr.mono kn) ⟨t6, a4, _, rfl, s9 _ _ (s8 _ _ (c7 _ _ ht6 e6)), s9 _ _ (s8 _ _ (c7 _ _ ha4 (s6 _ _ (s5 _ _ e4))))⟩)
            (by rw [List.append_nil]; exact s9 _ _ (s8 _ _ (c7 _ _ hne.symm (s16 _ _ ew)))) kf
          · intro f hf
            rcases List.mem_append.mp hf with hf | hf
            · exact hfrg f hf
            · rw [List.mem_singleton.mp hf]; exact hsg
          · rw [List.append_nil]
            show Sim P p most (wholes (fr ++ [.second .times n]) (Clo.mk z e).whole) ws
            rw [← op_part (a := x)]
            exact hs
          · rw [frw_snoc, frw_snoc]; show 4 * z.size + 1 + (frw fr + 1) ≤ 0 + (frw fr + (4 * z.size + 3)) + 257 * 0; omega
          · rw [frw_snoc, frw_snoc]; show 4 * z.size + 1 + (frw fr + 1) < 0 + (frw fr + (4 * z.size + 3)); omega
        | below =>
          walk_at "gg"
          rename_i a2 H2 n2 e2 s2 a3 H3 n3 e3 s3 a4 H4 n4 e4 s4 d5 H5 n5 e5 s5 t6 H6 n6 e6 s6
          have s15 := s2.trans (s3.trans (s4.trans s5))
          have s16 := s15.trans s6
          refine g_append (s16 _ _ ef) (by show _ < 16777216; omega) ?_
          walk_at "gg"
          rename_i H7 e7 c7 t8 H8 n8 e8 s8 r9 H9 n9 e9 s9
          have kf : Kf fl wl H H9 := fun b o n' m eb => s9 _ _ (s8 _ _ (c7 _ _ n' (s16 _ _ eb)))
          have kn := kf.kn ef ew
          have ht6 : t6 ≠ fl := (ne_of_none (s15 _ _ ef) n6).symm
          have ha4 : a4 ≠ fl := (ne_of_none (s3 _ _ (s2 _ _ ef)) n4).symm
          have hsg : (Frm.second .below n).good P := ⟨rfl, hwg⟩
          refine q1 r9 _ _ (.ev ⟨z, e⟩) (fr ++ [.second .below n]) (us ++ [.ref t6]) [] H9 e9 ⟨⟨t8, _, _, rfl, s9 _ _ e8, t3.mono kn.tk, hr'.mono kn⟩, rfl⟩ ⟨⟨hfg.1.1.2, by show e.wid + z.size ≤ 64; omega, hfg.1.2.2⟩, ?_, fun p most hs => ?_, by decide, ?_, fun _ => ?_⟩ (s9 _ _ (s8 _ _ e7)) (Frms.snoc (c := .second _ n) (hfr.mono kn) ⟨t6, a4, _, rfl, s9 _ _ (s8 _ _ (c7 _ _ ht6 e6)), s9 _ _ (s8 _ _ (c7 _ _ ha4 (s6 _ _ (s5 _ _ e4))))⟩)
            (by rw [List.append_nil]; exact s9 _ _ (s8 _ _ (c7 _ _ hne.symm (s16 _ _ ew)))) kf
          · intro f hf
            rcases List.mem_append.mp hf with hf | hf
            · exact hfrg f hf
            · rw [List.mem_singleton.mp hf]; exact hsg
          · rw [List.append_nil]
            show Sim P p most (wholes (fr ++ [.second .below n]) (Clo.mk z e).whole) ws
            rw [← op_part (a := x)]
            exact hs
          · rw [frw_snoc, frw_snoc]; show 4 * z.size + 1 + (frw fr + 1) ≤ 0 + (frw fr + (4 * z.size + 3)) + 257 * 0; omega
          · rw [frw_snoc, frw_snoc]; show 4 * z.size + 1 + (frw fr + 1) < 0 + (frw fr + (4 * z.size + 3)); omega
      | pair a2 b2 e2 =>
        obtain ⟨ty, u1, u2, rfl, ety, hu1, hu2⟩ := hw
        cases k with
        | pair => exact absurd rfl hkp
        | give =>
          walk_at "gg"
          rename_i a2 H2 n2 e2 s2 a3 H3 n3 e3 s3 d4 H4 n4 e4 s4
          have s14 := s2.trans (s3.trans s4)
          refine g_pairs kvO e4 rfl (by decide) ?_
          walk_at "gg"
          rename_i H5 e5 c5
          have f5 : Same H H5 := fun b o eb => c5 _ _ (ne_of_none ((s2.trans s3) _ _ eb) n4) (s14 _ _ eb)
          have ec5 := f5 _ _ ec
          clear e2 e3 e4 s2 s3 s4 s14 c5
          refine g_isd e5 ?_
          walk_at "gg"
          refine g_dget (k := .inr "give") e5 rfl ?_
          walk_at "gg"
          rename_i r6 H6 n6 e6 s6
          exact q2 r6 "function" H6 e6 (by decide) (fun p most hs hm => mv_wrong hfrg hfg.2 hwg rfl hs hm) (f5.trans s6)
        | plus =>
          walk_at "gg"
          rename_i a2 H2 n2 e2 s2 a3 H3 n3 e3 s3 d4 H4 n4 e4 s4
          have s14 := s2.trans (s3.trans s4)
          refine g_pairs kvO e4 rfl (by decide) ?_
          walk_at "gg"
          rename_i H5 e5 c5
          have f5 : Same H H5 := fun b o eb => c5 _ _ (ne_of_none ((s2.trans s3) _ _ eb) n4) (s14 _ _ eb)
          have ec5 := f5 _ _ ec
          clear e2 e3 e4 s2 s3 s4 s14 c5
          refine g_isd e5 ?_
          walk_at "gg"
          refine g_dget (k := .inr "plus") e5 rfl ?_
          walk_at "gg"
          rename_i r6 H6 n6 e6 s6
          exact q2 r6 "number" H6 e6 (by decide) (fun p most hs hm => mv_wrong hfrg hfg.2 hwg rfl hs hm) (f5.trans s6)
        | less =>
          walk_at "gg"
          rename_i a2 H2 n2 e2 s2 a3 H3 n3 e3 s3 d4 H4 n4 e4 s4
          have s14 := s2.trans (s3.trans s4)
          refine g_pairs kvO e4 rfl (by decide) ?_
          walk_at "gg"
          rename_i H5 e5 c5
          have f5 : Same H H5 := fun b o eb => c5 _ _ (ne_of_none ((s2.trans s3) _ _ eb) n4) (s14 _ _ eb)
          have ec5 := f5 _ _ ec
          clear e2 e3 e4 s2 s3 s4 s14 c5
          refine g_isd e5 ?_
          walk_at "gg"
          refine g_dget (k := .inr "less") e5 rfl ?_
          walk_at "gg"
          rename_i r6 H6 n6 e6 s6
          exact q2 r6 "number" H6 e6 (by decide) (fun p most hs hm => mv_wrong hfrg hfg.2 hwg rfl hs hm) (f5.trans s6)
        | times =>
          walk_at "gg"
          rename_i a2 H2 n2 e2 s2 a3 H3 n3 e3 s3 d4 H4 n4 e4 s4
          have s14 := s2.trans (s3.trans s4)
          refine g_pairs kvO e4 rfl (by decide) ?_
          walk_at "gg"
          rename_i H5 e5 c5
          have f5 : Same H H5 := fun b o eb => c5 _ _ (ne_of_none ((s2.trans s3) _ _ eb) n4) (s14 _ _ eb)
          have ec5 := f5 _ _ ec
          clear e2 e3 e4 s2 s3 s4 s14 c5
          refine g_isd e5 ?_
          walk_at "gg"
          refine g_dget (k := .inr "times") e5 rfl ?_
          walk_at "gg"
          rename_i r6 H6 n6 e6 s6
          exact q2 r6 "number" H6 e6 (by decide) (fun p most hs hm => mv_wrong hfrg hfg.2 hwg rfl hs hm) (f5.trans s6)
        | below =>
          walk_at "gg"
          rename_i a2 H2 n2 e2 s2 a3 H3 n3 e3 s3 d4 H4 n4 e4 s4
          have s14 := s2.trans (s3.trans s4)
          refine g_pairs kvO e4 rfl (by decide) ?_
          walk_at "gg"
          rename_i H5 e5 c5
          have f5 : Same H H5 := fun b o eb => c5 _ _ (ne_of_none ((s2.trans s3) _ _ eb) n4) (s14 _ _ eb)
          have ec5 := f5 _ _ ec
          clear e2 e3 e4 s2 s3 s4 s14 c5
          refine g_isd e5 ?_
          walk_at "gg"
          refine g_dget (k := .inr "below") e5 rfl ?_
          walk_at "gg"
          rename_i r6 H6 n6 e6 s6
          exact q2 r6 "number" H6 e6 (by decide) (fun p most hs hm => mv_wrong hfrg hfg.2 hwg rfl hs hm) (f5.trans s6)
      | fn g gs =>
        obtain ⟨ty, ga, gus, rfl, ety, ega, hgf, hgw, hgs⟩ := hw
        have htw : ty ≠ wl := by rintro rfl; rw [ety] at ew; cases ew
        cases k with
        | pair => exact absurd rfl hkp
        | give =>
          walk_at "gg"
          rename_i a2 H2 n2 e2 s2 l3 H3 n3 e3 s3
          have hgl := hgs.len
          have hw4 : P.wantsOf g ≤ 4 := by
            obtain ⟨j, fn, h1, h2, h3⟩ := Prog.at_name hwg.1
            rw [h3]
            exact (hfine.fs fn (List.mem_of_getElem? h1)).few
          have hgn : gs.length < P.wantsOf g := hwg.2.1
          refine g_addL (s3 _ _ (s2 _ _ ega)) e3 (by show _ + 1 ≤ 16777216; omega) ?_
          walk_at "gg"
          rename_i l4 H4 n4 e4 s4
          have s24 := s2.trans (s3.trans s4)
          have hl4 : (gus ++ [V.ref a2]).length = gs.length + 1 := by rw [List.length_append, hgl]; rfl
          have hfw : l4 ≠ wl := (ne_of_none (s3 _ _ (s2 _ _ ew)) n4).symm
          have hff : l4 ≠ fl := (ne_of_none (s3 _ _ (s2 _ _ ef)) n4).symm
          have hng : (Clo.mk z e).good P.names := ⟨hfg.1.1.2, by show e.wid + z.size ≤ 64; omega, hfg.1.2.2⟩
          have hgs4 : Clos H4 (gus ++ [.ref a2]) (gs ++ [⟨z, e⟩]) := (hgs.mono (Kn.same s24)).snoc ⟨a2, x3, d, rfl, s4 _ _ (s3 _ _ e2), t3.mono (Same.tk s24), hr'.mono (Kn.same s24)⟩
          have hgd : ∀ c ∈ gs ++ [Clo.mk z e], c.good P.names := by
            intro c hc
            rcases List.mem_append.mp hc with hc | hc
            · exact hwg.2.2 c hc
            · rw [List.mem_singleton.mp hc]; exact hng
          have hgl2 : (gs ++ [Clo.mk z e]).length = gs.length + 1 := by rw [List.length_append]; rfl
          refine ⟨v, P, g, rfl, tP.mono (Same.tk s24), hfine, hwg.1, fun H5 s5 => ?_⟩
          walk_at "gg"
          by_cases hlt : gs.length + 1 < P.wantsOf g
          · refine g_T (decide_eq_true (by rw [hl4]; omega)) ?_
            walk_at "gg"
            rename_i t6 H6 n6 e6 s6 r7 H7 n7 e7 s7
            have s47 := s5.trans (s6.trans s7)
            have s07 := s24.trans s47
            refine q1 r7 _ _ (.rt (.fn g (gs ++ [⟨z, e⟩]))) fr us [] H7 e7 ⟨t6, l4, _, rfl, s7 _ _ e6, s47 _ _ e4, hff, hfw, hgs4.mono (Kn.same s47)⟩ ⟨⟨hwg.1, by rw [hgl2]; exact hlt, hgd⟩, hfrg, fun p most hs => ?_, by decide, ?_, fun _ => ?_⟩ (s07 _ _ ef) (hfr.mono (Kn.same s07)) (by rw [List.append_nil]; exact s07 _ _ ew) (Kf.same s07)
            · rw [List.append_nil]
              show Sim P p most (wholes fr (Wth.fn g (gs ++ [⟨z, e⟩])).part) ws
              rw [← give_part (a := x)]
              exact hs
            · rw [frw_snoc]; show 0 + frw fr ≤ 0 + (frw fr + (4 * z.size + 3)) + 257 * 0; omega
            · rw [frw_snoc]; show 0 + frw fr < 0 + (frw fr + (4 * z.size + 3)); omega
          · refine g_F (decide_eq_false (by rw [hl4]; omega)) ?_
            have hw1 : gs.length + 1 = P.wantsOf g := by omega
            have s05 := s24.trans s5
            walk_at "gg"
            refine g_append (s05 _ _ ew) hwl2 ?_
            walk_at "gg"
            rename_i H6 e6 c6
            have kf6 : Kf fl wl H H6 := fun b o n' m eb => c6 _ _ m (s05 _ _ eb)
            have kn6 := kf6.kn ef ew
            have kn46 : Kn H4 H6 := (Kn.same s5).trans (Kn.chg c6 (s05 _ _ ew))
            refine ⟨v, P, g, l4, _, gs ++ [⟨z, e⟩], rfl, tP.mono kn6.tk, hfine, hwg.1, c6 _ _ hfw (s5 _ _ e4), hgs4.mono kn46, by rw [hgl2]; exact hw1, fun v' H7 hc s7 => ?_⟩
            walk_at "gg"
            rename_i r8 H8 n8 e8 s8
            have s68 := s7.trans s8
            have kf := kf6.trans (Kf.same s68)
            have kn := kf.kn ef ew
            have hcg := call_good hfine hwg.1 hgd (by rw [hgl2]; exact hw1)
            have hsz2 : (callE ((P.thingsOf g).zip (gs ++ [Clo.mk z e])) GEnv.nil).wid + (P.bodyOf g).size ≤ 64 := hcg.2.1
            refine q1 r8 _ _ (.ev ⟨P.bodyOf g, callE ((P.thingsOf g).zip (gs ++ [Clo.mk z e])) .nil⟩) fr us ["call"] H8 e8 ⟨hc.mono (Kn.same s8), rfl⟩ ⟨hcg, hfrg, fun p most hs => mv_give hfrg hwg hw1 (by rw [← give_part (a := x)]; exact hs), by decide, ?_, fun z => by cases z⟩ (s68 _ _ (c6 _ _ hne (s05 _ _ ef))) (hfr.mono kn) (by rw [List.map_append]; exact s68 _ _ e6) kf
            rw [frw_snoc]; show 4 * (P.bodyOf g).size + 1 + frw fr ≤ 0 + (frw fr + (4 * z.size + 3)) + 257 * 1
            omega
        | plus =>
          walk_at "gg"
          rename_i a2 H2 n2 e2 s2 a3 H3 n3 e3 s3 d4 H4 n4 e4 s4
          have s14 := s2.trans (s3.trans s4)
          refine g_pairs kvO e4 rfl (by decide) ?_
          walk_at "gg"
          rename_i H5 e5 c5
          have f5 : Same H H5 := fun b o eb => c5 _ _ (ne_of_none ((s2.trans s3) _ _ eb) n4) (s14 _ _ eb)
          have ec5 := f5 _ _ ec
          clear e2 e3 e4 s2 s3 s4 s14 c5
          refine g_isd e5 ?_
          walk_at "gg"
          refine g_dget (k := .inr "plus") e5 rfl ?_
          walk_at "gg"
          rename_i r6 H6 n6 e6 s6
          exact q2 r6 "number" H6 e6 (by decide) (fun p most hs hm => mv_wrong hfrg hfg.2 hwg rfl hs hm) (f5.trans s6)
        | less =>
          walk_at "gg"
          rename_i a2 H2 n2 e2 s2 a3 H3 n3 e3 s3 d4 H4 n4 e4 s4
          have s14 := s2.trans (s3.trans s4)
          refine g_pairs kvO e4 rfl (by decide) ?_
          walk_at "gg"
          rename_i H5 e5 c5
          have f5 : Same H H5 := fun b o eb => c5 _ _ (ne_of_none ((s2.trans s3) _ _ eb) n4) (s14 _ _ eb)
          have ec5 := f5 _ _ ec
          clear e2 e3 e4 s2 s3 s4 s14 c5
          refine g_isd e5 ?_
          walk_at "gg"
          refine g_dget (k := .inr "less") e5 rfl ?_
          walk_at "gg"
          rename_i r6 H6 n6 e6 s6
          exact q2 r6 "number" H6 e6 (by decide) (fun p most hs hm => mv_wrong hfrg hfg.2 hwg rfl hs hm) (f5.trans s6)
        | times =>
          walk_at "gg"
          rename_i a2 H2 n2 e2 s2 a3 H3 n3 e3 s3 d4 H4 n4 e4 s4
          have s14 := s2.trans (s3.trans s4)
          refine g_pairs kvO e4 rfl (by decide) ?_
          walk_at "gg"
          rename_i H5 e5 c5
          have f5 : Same H H5 := fun b o eb => c5 _ _ (ne_of_none ((s2.trans s3) _ _ eb) n4) (s14 _ _ eb)
          have ec5 := f5 _ _ ec
          clear e2 e3 e4 s2 s3 s4 s14 c5
          refine g_isd e5 ?_
          walk_at "gg"
          refine g_dget (k := .inr "times") e5 rfl ?_
          walk_at "gg"
          rename_i r6 H6 n6 e6 s6
          exact q2 r6 "number" H6 e6 (by decide) (fun p most hs hm => mv_wrong hfrg hfg.2 hwg rfl hs hm) (f5.trans s6)
        | below =>
          walk_at "gg"
          rename_i a2 H2 n2 e2 s2 a3 H3 n3 e3 s3 d4 H4 n4 e4 s4
          have s14 := s2.trans (s3.trans s4)
          refine g_pairs kvO e4 rfl (by decide) ?_
          walk_at "gg"
          rename_i H5 e5 c5
          have f5 : Same H H5 := fun b o eb => c5 _ _ (ne_of_none ((s2.trans s3) _ _ eb) n4) (s14 _ _ eb)
          have ec5 := f5 _ _ ec
          clear e2 e3 e4 s2 s3 s4 s14 c5
          refine g_isd e5 ?_
          walk_at "gg"
          refine g_dget (k := .inr "below") e5 rfl ?_
          walk_at "gg"
          rename_i r6 H6 n6 e6 s6
          exact q2 r6 "number" H6 e6 (by decide) (fun p most hs hm => mv_wrong hfrg hfg.2 hwg rfl hs hm) (f5.trans s6)
    | _ => exact hfg.2.elim

/-! ### the law's machine, run -/
/-- what the law's run comes to -/
def ComeAt (H : Hp) (P : Prog) (wl : Addr) (word : Str) (y : V) : Res → Prop
  | .worth q => word = "worth" ∧ ∃ (fl : Addr) (w : Wth), WthAt H fl wl y w ∧ w.good P ∧ q = w.part
  | .fault wd => word = "fault" ∧ y = .str wd
  | .more => word = "more" ∧ y = .non
theorem ComeAt.mono {H H' : Hp} {P : Prog} {wl : Addr} {word : Str} {y : V} (s : Same H H') : ∀ {r : Res}, ComeAt H P wl word y r → ComeAt H' P wl word y r
  | .worth _, ⟨e, fl, w, h1, h2⟩ => ⟨e, fl, w, h1.mono (Kf.same s) (Kn.same s), h2⟩
  | .fault _, h => h
  | .more, h => h
def spLCome : Sp := fun vs H Q _ => ∃ (v h : V) (most : Nat) (P : Prog) (c : Clo), vs = [v, h, .int most] ∧ Tp H v P.data ∧ P.fine ∧ ClosAt H h c ∧ c.good P.names ∧ most ≤ 400 ∧
  ∀ (r wl : Addr) (word : Str) (y : V) (H' : Hp), H wl = none → H' r = some (.tup [.str word, y, .ref wl]) → H' wl = some (.lst ((runM P most c.whole).2.map V.str)) → ComeAt H' P wl word y (runM P most c.whole).1 → Same H H' → Q (.ref r) H'
theorem kf_same {H H1 H2 : Hp} {fl wl : Addr} (s : Same H H1) (k : Kf fl wl H1 H2) (h1 : H fl = none) (h2 : H wl = none) : Same H H2 := fun b o e => k b o (ne_of_none e h1) (ne_of_none e h2) (s b o e)
theorem pure_lcome {K : PySem.W.Frag} {w : World} : PureOk 3 spLCome (t_law_come K w spLInto spLOut) 7 := by
  refine ⟨fun vs H Q E ⟨_, _, _, _, _, e, _⟩ => by rw [e]; rfl, ?_⟩
  rintro vs H Q E ⟨v, h, most, P, c, rfl, tP, hfine, hc, hcg, hm, q⟩
  show t_law_come K w _ _ _ [some v, some h, some (.int most), none, none, none, none] H
  unfold t_law_come
  walk_at "gg"
  rename_i fl H1 n1 e1 s1 wl H2 n2 e2 s2
  have hfl : H fl = none := n1
  have hwl : H wl = none := s1.free n2
  have hne : fl ≠ wl := ne_of_none e1 n2
  have sz := hcg.2.1
  refine while_any (fun m σ H' => ∃ (x y : V) (x6 : Option V) (st : MSt) (fr : List Frm) (us : List V) (ws : List Str), σ = [some v, some x, some (.int most), some (.ref fl), some (.ref wl), some y, x6] ∧ H' fl = some (.lst us) ∧ Frms H' us fr ∧ (∀ f ∈ fr, f.good P) ∧ H' wl = some (.lst (ws.map V.str)) ∧ StAt H' fl wl x y st ∧ st.good P ∧
      Sim P c.whole most (wholes fr st.whole) ws ∧ ws.length ≤ most + 2 ∧ st.wgt + frw fr ≤ 257 * (ws.length + 1) ∧ Same H H' ∧ (most + 3 - ws.length) * 1000000 + (st.wgt + frw fr) ≤ m) ((most + 3) * 1000000 + 257)
    ⟨h, .non, none, .ev c, [], [], [], rfl, s2 _ _ e1, .nil, fun f hf => by simp at hf, e2, ⟨hc.mono (Kn.same (s1.trans s2)), rfl⟩, hcg, Sim.start, by show 0 ≤ _; omega, ?_, s1.trans s2, ?_⟩ ?_
  · show 4 * c.p.size + 1 + 0 ≤ 257 * (0 + 1); omega
  · show (most + 3 - 0) * 1000000 + (4 * c.p.size + 1 + 0) ≤ _; omega
  rintro m σ H3 ⟨x, y, x6, st, fr, us, ws, rfl, ef, hfr, hfg, ew, hst, hsg, hsim, hws, hwt, s3, hm3⟩
  have tP3 := tP.mono (Same.tk s3)
  have hul := hfr.len
  have hfw := frw_len fr
  have hmv : ∀ {st' : MSt} {fr' : List Frm} {ws' : List Str}, ws.length ≤ most → Mv P st fr st' fr' ws ws' → (ws ++ ws').length ≤ most + 2 ∧ st'.wgt + frw fr' ≤ 257 * ((ws ++ ws').length + 1) ∧ (most + 3 - (ws ++ ws').length) * 1000000 + (st'.wgt + frw fr') < m := by
    intro st' fr' ws' hle mv
    have h1 := mv.few
    have h2 := mv.wgt
    rw [List.length_append]
    refine ⟨by omega, by omega, ?_⟩
    cases ws' with
    | nil =>
      have h3 := mv.less rfl
      show (most + 3 - (ws.length + 0)) * 1000000 + _ < m
      omega
    | cons w0 ws' =>
      rw [List.length_cons] at h1 h2 ⊢
      omega
  walk_at "gg"
  by_cases hle : ws.length ≤ most
  · refine g_T (decide_eq_true (by rw [List.length_map]; omega)) ?_
    refine g_turn ?_
    cases st with
    | ev c1 =>
      obtain ⟨hc1, rfl⟩ := hst
      walk_at "gg"
      refine .inl ⟨rfl, ?_⟩
      walk_at "gg"
      refine ⟨v, x, fl, wl, P, c1, fr, us, ws, rfl, tP3, hfine, hc1, hsg, ef, hfr, hfg, by omega, ew, by omega, hne, fun r x' y' st' fr' us' ws' H4 er hst' mv ef' hfr' ew' kf => ?_⟩
      walk_at "gg"
      have hh := hmv hle mv
      exact ⟨_, hh.2.2, x', y', _, st', fr', us', ws ++ ws', rfl, ef', hfr', mv.frms, ew', hst', mv.good, mv.sim _ _ hsim, hh.1, hh.2.1, kf_same s3 kf hfl hwl, Nat.le_refl _⟩
    | rt wt =>
      obtain ⟨t, xs, rfl, et⟩ := WthAt.head hst
      walk_at "gg"
      refine .inl ⟨rfl, ?_⟩
      walk_at "gg"
      rename_i l4 H4 n4 e4 s4
      rcases List.eq_nil_or_concat fr with rfl | ⟨fr0, f, hcat⟩
      · have hus : us = [] := List.eq_nil_of_length_eq_zero (by rw [hul]; rfl)
        subst hus
        refine g_T rfl ?_
        walk_at "gg"
        rename_i r5 H5 n5 e5 s5
        have hr := Sim.worth (c := wt.part) (show Sim P c.whole most wt.part ws from hsim) hle (Wth.worth hsg)
        have s35 := s4.trans s5
        refine q r5 wl "worth" (.ref t) H5 hwl e5 (by rw [hr]; exact s35 _ _ ew) ?_ (s3.trans s35)
        rw [hr]
        exact ⟨rfl, fl, wt, hst.mono (Kf.same s35) (Kn.same s35), hsg, rfl⟩
      · rw [List.concat_eq_append] at hcat
        subst hcat
        obtain ⟨us0, u, rfl, hfr0, hu⟩ := Frms.snoc_inv hfr
        refine g_F (by cases us0 <;> rfl) ?_
        walk_at "gg"
        refine g_pop (s4 _ _ ef) ?_
        walk_at "gg"
        rename_i H5 e5 c5
        have k35 : Kf fl wl H3 H5 := fun b o n n' e => c5 _ _ n (s4 _ _ e)
        have kn := k35.kn ef ew
        have hul' : us0.length ≤ 1000000 := by rw [List.length_append] at hul; omega
        refine ⟨v, u, .ref t, fl, wl, P, f, wt, fr0, us0, ws, rfl, tP3.mono kn.tk, hfine, hu.mono kn, hfg f (by simp), hst.mono k35 kn, hsg, e5, hfr0.mono kn, fun g hg => hfg g (by simp [hg]), hul', c5 _ _ hne.symm (s4 _ _ ew), by omega, hne, ?_, ?_⟩
        · intro r x' y' st' fr' us' ws' H6 er hst' mv ef' hfr' ew' kf
          walk_at "gg"
          have hh := hmv hle mv
          exact ⟨_, hh.2.2, x', y', _, st', fr', us', ws ++ ws', rfl, ef', hfr', mv.frms, ew', hst', mv.good, mv.sim _ _ hsim, hh.1, hh.2.1, kf_same s3 (k35.trans kf) hfl hwl, Nat.le_refl _⟩
        · intro r wd H6 er hwd hfa s6
          walk_at "gg"
          refine g_T (by rw [decide_eq_false hwd]; rfl) ?_
          walk_at "gg"
          rename_i r7 H7 n7 e7 s7
          have hr := hfa _ _ hsim hle
          refine q r7 wl "fault" (.str wd) H7 hwl e7 (by rw [hr]; exact s7 _ _ (s6 _ _ (c5 _ _ hne.symm (s4 _ _ ew)))) ?_ (kf_same s3 (k35.trans (Kf.same (s6.trans s7))) hfl hwl)
          rw [hr]
          exact ⟨rfl, rfl⟩
  · refine g_F (decide_eq_false (by rw [List.length_map]; omega)) ?_
    walk_at "gg"
    have hr := Sim.more hsim (by omega)
    refine g_slL (SqL.of ew) ?_
    walk_at "gg"
    rename_i l4 H4 n4 e4 s4 r5 H5 n5 e5 s5
    have hl4 : H l4 = none := s3.free n4
    refine q r5 l4 "more" .non H5 hl4 e5 ?_ ?_ (s3.trans (s4.trans s5))
    · rw [hr]
      have := s5 _ _ e4
      rw [cut_to most] at this
      exact this
    · rw [hr]
      exact ⟨rfl, rfl⟩

/-- tuples of texts and numbers, so many deep -/
def flatP : Nat → PyData → Prop
  | 0, _ => False
  | m + 1, d => (∃ n, d = .int n) ∨ (∃ s, d = .str s) ∨ ∃ ds, d = .tuple ds ∧ ds.length ≤ 100 ∧ ∀ e ∈ ds, flatP m e
theorem told_flat (r : Res) : flatP 2 r.told := by
  have i : ∀ n, flatP 1 (.int n) := fun n => .inl ⟨n, rfl⟩
  have s : ∀ n, flatP 1 (.str n) := fun n => .inr (.inl ⟨n, rfl⟩)
  have key : ∀ ds, ds.length ≤ 100 → (∀ e ∈ ds, flatP 1 e) → flatP 2 (.tuple ds) := fun ds h1 h2 => .inr (.inr ⟨ds, rfl, h1, h2⟩)
  cases r with
  | more => exact key _ (by decide) (by simp [s])
  | fault w => exact key _ (by show 2 ≤ 100; decide) (by simp [s])
  | worth p =>
    show flatP 2 p.told
    unfold Part.told
    split
    · exact key _ (by show 2 ≤ 100; decide) (by simp [s, i])
    · exact key _ (by decide) (by simp [s])
    · split
      · exact key _ (by show 3 ≤ 100; decide) (by simp [s, i])
      · exact key _ (by decide) (by simp)
/-- of each two that stand at one place it tells True -/
theorem lc_trueM {K : PySem.W.Frag} {κ κ' : Kd} {g : TG} {te : TE} {vs : List Nat} {σ : L2.St} {H1 : Hp} {a b : Addr} {xs ys : List V} {Qd : Addr → Hp → Prop} (hl : xs.length ≤ 100000)
    (ha : ∀ H', Same H1 H' → SqK K κ H' a xs ∧ SqK K κ' H' b ys)
    (hs : ∀ (i : Nat) x y T H' H'' (Nx : V → Hp → Prop), xs[i]? = some x → ys[i]? = some y → Same H1 H' → Fr H' T → H'' T = some (.tup [x, y]) → Same H' H'' → (∀ H4, Same H'' H4 → Nx (.bl true) H4) → g (.ref T) (wipe σ vs) H'' fun σ2 H2 => wipe σ2 vs = wipe σ vs ∧ te σ2 H2 Nx)
    (hd : ∀ D n H', Fr H1 D → H' D = some (.lst ((List.replicate n true).map V.bl)) → Same H1 H' → Qd D H') : LcR (ItM K κ κ' a b) g tYes te vs σ H1 Qd := by
  intro D hD
  refine lc_any (min xs.length ys.length) (fun i acc H' => acc = (List.replicate i true).map V.bl ∧ Same H1 H') hD (fun H' _ s => ⟨rfl, s⟩) (fun i acc H' hi ⟨_, s⟩ => ⟨xs, ys, _, _, (ha _ s).1, (ha _ s).2, List.getElem?_eq_getElem (by omega), List.getElem?_eq_getElem (by omega)⟩)
    (fun acc H' ⟨_, s⟩ => ⟨xs, ys, (ha _ s).1, (ha _ s).2, by omega⟩) ?_ ?_
  · rintro i v acc H2 H' hi hla ⟨hacc, s2⟩ hd2 ⟨T, x, y, rfl, hT, rfl, fx, fy⟩
    have hsT : Same H2 (upd H2 T (.tup [x, y])) := same_upd hT
    refine hs i x y T _ _ _ (fx _ (ha _ s2).1) (fy _ (ha _ s2).2) s2 hT upd_same hsT fun H4 s4 => ?_
    refine lc_step (s4 _ _ (hsT _ _ hd2)) hla (by show _ < 16777216; omega) fun H5 e5 c5 => ?_
    refine ⟨?_, Same.chg (s2.trans (hsT.trans s4)) hD c5⟩
    rw [hacc, List.replicate_succ', List.map_append]
    rfl
  · rintro acc H' hd2 ⟨rfl, s⟩
    exact hd D _ H' hD hd2 s
def spLPlain (m : Nat) : Sp := fun vs H Q _ => ∃ (x y : V) (d : PyData), vs = [x, y] ∧ Tp H x d ∧ Tp H y d ∧ flatP m d ∧ ∀ H', Same H H' → Q (.bl true) H'

/-! ### alike -/
theorem Tp.likeR {K : PySem.W.Frag} {H : Hp} {ds : List PyData} {v v' : V} {n : Nat} (h : Tp H v (.tuple ds)) (h' : Tp H v' (.tuple ds)) (hn : PyData.depthAll ds < n) : LkR K H (Lk K H n) v v' := by
  cases h with
  | tup e r =>
    cases h' with
    | tup e' r' => exact .inr ⟨_, _, _, _, rfl, rfl, .of e, .of e', Tps.like r r' hn⟩
theorem Part.depthAll (p : Part) : PyData.depthAll (.str p.word :: p.args) < PyData.depth p.data := by
  rw [p.data_eq, PyData.depth]
  omega
theorem Tp.likeP {K : PySem.W.Frag} {H : Hp} {p : Part} {v v' : V} {n : Nat} (h : Tp H v p.data) (h' : Tp H v' p.data) (hn : PyData.depth p.data ≤ n) : LkR K H (Lk K H n) v v' := by
  have := p.depthAll
  rw [p.data_eq] at h h'
  exact Tp.likeR h h' (by omega)
section
variable {K : PySem.W.Frag} {H : Hp} {x y : V} {Q : VK}
theorem g_neLk {n : Nat} (h : LkR K H (Lk K H n) x y) (hn : n ≤ 150) (q : Q (.bl false) H) : rNeG K x y H Q := .inr (.inr (.inr (.inl ⟨n, hn, h, q⟩)))
theorem g_eqLk {n : Nat} (h : LkR K H (Lk K H n) x y) (hn : n ≤ 150) (q : Q (.bl true) H) : rEqG K x y H Q := .inr (.inr (.inr (.inl ⟨n, hn, h, q⟩)))
theorem g_neSame {a b : Addr} {kvs : List (Key × V)} (h : H a = some (.dK kvs)) (h' : H b = some (.dK kvs)) (ok : ∀ p ∈ kvs, valV kvs p.1 = some p.2 ∧ flatR p.2 = true) (q : Q (.bl false) H) : rNeG K (.ref a) (.ref b) H Q :=
  .inr (.inr (.inl ⟨a, b, kvs, kvs, rfl, rfl, h, h', rfl, ok, q⟩))
end

/-! ### k11: the drawn parts -/
def F11 : List Str := ["of", "on"]
structure EndP (p : Part) : Prop where
  ok : p.ok F11 []
  size : p.size ≤ 8
  deep : p.deep ≤ 4
  rows : p.rowNames = []
theorem nm_of : isName "of" := ⟨by decide, by decide, by decide⟩
theorem nm_on : isName "on" := ⟨by decide, by decide, by decide⟩
def spEnd : Sp := fun vs H Q _ => ∃ (pen L : Addr), vs = [.ref pen] ∧ PenAt H pen L ∧ ∀ (v : V) (p : Part) (H' : Hp), Tp H' v p.data → EndP p → PenAt H' pen L → Chg pen H H' → Q v H'
def ends11 (y : Int) (g : Int) : List Part :=
  let one : Part := .num y
  let pair : Part := .two .pair (.num 1) (.one .left (.num 2))
  let great : Part := .num g
  let t : Part := .num (10 ^ 30)
  [one, pair, .fn "of", .two .give (.fn "of") pair, .fn "on", great, t, .one .left one, .two .give one pair, .two .plus pair one, .two .plus great great,
   .two .give (.two .give (.fn "of") one) pair, .two .times t t, .whn pair one one, .two .less one great, .one .right pair, .one .left pair, .two .below one great, .two .plus one pair]
theorem ends_ok {y g : Int} (hy : y.natAbs < 10 ^ 60) (hg : g.natAbs < 10 ^ 60) : ∀ p ∈ ends11 y g, EndP p := by
  have h30 : ((10 : Int) ^ 30).natAbs < 10 ^ 60 := by decide
  have hof : (Part.fn "of").ok F11 [] := ⟨by decide, nm_of⟩
  have hon : (Part.fn "on").ok F11 [] := ⟨by decide, nm_on⟩
  have hp : (Part.two .pair (.num 1) (.one .left (.num 2))).ok F11 [] := ⟨show (1 : Int).natAbs < 10 ^ 60 by decide, show (2 : Int).natAbs < 10 ^ 60 by decide⟩
  have ho : (Part.num y).ok F11 [] := hy
  have hgr : (Part.num g).ok F11 [] := hg
  have ht : (Part.num (10 ^ 30)).ok F11 [] := h30
  intro p h
  unfold ends11 at h
  simp only [List.mem_cons, List.not_mem_nil, or_false] at h
  rcases h with rfl | rfl | rfl | rfl | rfl | rfl | rfl | rfl | rfl | rfl | rfl | rfl | rfl | rfl | rfl | rfl | rfl | rfl | rfl
  · exact ⟨ho, Nat.le_of_ble_eq_true rfl, Nat.le_of_ble_eq_true rfl, rfl⟩
  · exact ⟨hp, Nat.le_of_ble_eq_true rfl, Nat.le_of_ble_eq_true rfl, rfl⟩
  · exact ⟨hof, Nat.le_of_ble_eq_true rfl, Nat.le_of_ble_eq_true rfl, rfl⟩
  · exact ⟨⟨hof, hp⟩, Nat.le_of_ble_eq_true rfl, Nat.le_of_ble_eq_true rfl, rfl⟩
  · exact ⟨hon, Nat.le_of_ble_eq_true rfl, Nat.le_of_ble_eq_true rfl, rfl⟩
  · exact ⟨hgr, Nat.le_of_ble_eq_true rfl, Nat.le_of_ble_eq_true rfl, rfl⟩
  · exact ⟨ht, Nat.le_of_ble_eq_true rfl, Nat.le_of_ble_eq_true rfl, rfl⟩
  · exact ⟨ho, Nat.le_of_ble_eq_true rfl, Nat.le_of_ble_eq_true rfl, rfl⟩
  · exact ⟨⟨ho, hp⟩, Nat.le_of_ble_eq_true rfl, Nat.le_of_ble_eq_true rfl, rfl⟩
  · exact ⟨⟨hp, ho⟩, Nat.le_of_ble_eq_true rfl, Nat.le_of_ble_eq_true rfl, rfl⟩
  · exact ⟨⟨hgr, hgr⟩, Nat.le_of_ble_eq_true rfl, Nat.le_of_ble_eq_true rfl, rfl⟩
  · exact ⟨⟨⟨hof, ho⟩, hp⟩, Nat.le_of_ble_eq_true rfl, Nat.le_of_ble_eq_true rfl, rfl⟩
  · exact ⟨⟨ht, ht⟩, Nat.le_of_ble_eq_true rfl, Nat.le_of_ble_eq_true rfl, rfl⟩
  · exact ⟨⟨hp, ho, ho⟩, Nat.le_of_ble_eq_true rfl, Nat.le_of_ble_eq_true rfl, rfl⟩
  · exact ⟨⟨ho, hgr⟩, Nat.le_of_ble_eq_true rfl, Nat.le_of_ble_eq_true rfl, rfl⟩
  · exact ⟨hp, Nat.le_of_ble_eq_true rfl, Nat.le_of_ble_eq_true rfl, rfl⟩
  · exact ⟨hp, Nat.le_of_ble_eq_true rfl, Nat.le_of_ble_eq_true rfl, rfl⟩
  · exact ⟨⟨ho, hgr⟩, Nat.le_of_ble_eq_true rfl, Nat.le_of_ble_eq_true rfl, rfl⟩
  · exact ⟨⟨ho, hp⟩, Nat.le_of_ble_eq_true rfl, Nat.le_of_ble_eq_true rfl, rfl⟩
theorem pure_end {K : PySem.W.Frag} {w : World} : PureOk 1 spEnd (t_law_end K w spDraw) 5 := by
  refine ⟨fun vs H Q E ⟨_, _, e, _⟩ => by rw [e]; rfl, ?_⟩
  rintro vs H Q E ⟨pen, L, rfl, hP, q⟩
  show t_law_end K w _ _ [some (.ref pen), none, none, none, none] H
  unfold t_law_end
  walk_at "gg"
  walk_at "draw"
  intro y H1 ya yb hP1 c1
  have c01 : Chg pen H H1 := c1
  clear c1
  walk_at "gg"
  rename_i a2 H2 n2 e2 s2 a3 H3 n3 e3 s3 a4 H4 n4 e4 s4 a5 H5 n5 e5 s5 a6 H6 n6 e6 s6
  refine ⟨_, _, rfl, ?_⟩
  dsimp only [List.set]
  have s16 := s2.trans (s3.trans (s4.trans (s5.trans s6)))
  have hP6 := hP1.same s16
  have to6 : Tp H6 (.ref a2) (Part.num y).data := .tup (s6 _ _ (s5 _ _ (s4 _ _ (s3 _ _ e2)))) (.cons (.str _) (.one (.int _)))
  have tp6 : Tp H6 (.ref a6) (Part.two .pair (.num 1) (.one .left (.num 2))).data := .tup e6 (.cons (.str _) (.cons (.tup (s6 _ _ (s5 _ _ (s4 _ _ e3))) (.cons (.str _) (.one (.int _)))) (.one (.tup (s6 _ _ e5) (.cons (.str _) (.one (.tup (s6 _ _ (s5 _ _ e4)) (.cons (.str _) (.one (.int _))))))))))
  have c06 := c01.trans (.same s16)
  clear e2 e3 e4 e5 e6 s2 s3 s4 s5 s6 n2 n3 n4 n5 n6 s16 hP1 c01
  walk_at "gg"
  refine g_powI ⟨by decide, by decide, by decide⟩ ?_
  walk_at "gg"
  walk_at "draw"
  intro z H7 za zb hP7 c7
  have to7 := to6.mono (hP6.tk c7)
  have tp7 := tp6.mono (hP6.tk c7)
  have c07 := c06.trans c7
  clear c7 to6 tp6 c06 hP6
  walk_at "gg"
  rename_i g8 H8 n8 e8 s8 f9 H9 n9 e9 s9 f10 H10 n10 e10 s10 v11 H11 n11 e11 s11 o12 H12 n12 e12 s12
  refine g_powI ⟨by decide, by decide, by decide⟩ ?_
  walk_at "gg"
  rename_i t13 H13 n13 e13 s13 l14 H14 n14 e14 s14 b15 H15 n15 e15 s15 b16 H16 n16 e16 s16 b17 H17 n17 e17 s17 b18 H18 n18 e18 s18 l19 H19 n19 e19 s19 l20 H20 n20 e20 s20 f21 H21 n21 e21 s21 v22 H22 n22 e22 s22 w23 H23 n23 e23 s23
  have r22 := s23
  have r21 := s22.trans r22
  have r20 := s21.trans r21
  have r19 := s20.trans r20
  have r18 := s19.trans r19
  have r17 := s18.trans r18
  have r16 := s17.trans r17
  have r15 := s16.trans r16
  have r14 := s15.trans r15
  have r13 := s14.trans r14
  have r12 := s13.trans r13
  have r11 := s12.trans r12
  have r10 := s11.trans r11
  have r9 := s10.trans r10
  have r8 := s9.trans r9
  have r7 := s8.trans r8
  have to23 := to7.mono (Same.tk r7)
  have tp23 := tp7.mono (Same.tk r7)
  have tg23 : Tp H23 (.ref g8) (Part.num (10 ^ Int.toNat 60 - 1 - z)).data := .tup (r8 _ _ e8) (.cons (.str _) (.one (.int _)))
  have tf23 : Tp H23 (.ref f9) (Part.fn "of").data := .tup (r9 _ _ e9) (.cons (.str _) (.one (.str _)))
  have tv23 : Tp H23 (.ref v11) (Part.two .give (.fn "of") (.two .pair (.num 1) (.one .left (.num 2)))).data := .tup (r11 _ _ e11) (.cons (.str _) (.cons (.tup (r10 _ _ e10) (.cons (.str _) (.one (.str _)))) (.one tp23)))
  have tn23 : Tp H23 (.ref o12) (Part.fn "on").data := .tup (r12 _ _ e12) (.cons (.str _) (.one (.str _)))
  have tt23 : Tp H23 (.ref t13) (Part.num (10 ^ 30)).data := .tup (r13 _ _ e13) (.cons (.str _) (.one (.int _)))
  have x15 : Tp H23 (.ref b15) (Part.one .left (.num y)).data := .tup (r15 _ _ e15) (.cons (.str _) (.one to23))
  have x16 : Tp H23 (.ref b16) (Part.two .give (.num y) (.two .pair (.num 1) (.one .left (.num 2)))).data := .tup (r16 _ _ e16) (.cons (.str _) (.cons to23 (.one tp23)))
  have x17 : Tp H23 (.ref b17) (Part.two .plus (.two .pair (.num 1) (.one .left (.num 2))) (.num y)).data := .tup (r17 _ _ e17) (.cons (.str _) (.cons tp23 (.one to23)))
  have x18 : Tp H23 (.ref b18) (Part.two .plus (.num (10 ^ Int.toNat 60 - 1 - z)) (.num (10 ^ Int.toNat 60 - 1 - z))).data := .tup (r18 _ _ e18) (.cons (.str _) (.cons tg23 (.one tg23)))
  have x23 : Tp H23 (.ref w23) (Part.two .give (.two .give (.fn "of") (.num y)) (.two .pair (.num 1) (.one .left (.num 2)))).data := .tup e23 (.cons (.str _) (.cons (.tup (r22 _ _ e22) (.cons (.str _) (.cons (.tup (r21 _ _ e21) (.cons (.str _) (.one (.str _)))) (.one to23)))) (.one tp23)))
  have l23 := r20 _ _ e20
  have hP23 := hP7.same r7
  have c023 := c07.trans (.same r7)
  have T1 : Tps H23 [.ref a2, .ref a6, .ref f9, .ref v11, .ref o12, .ref g8, .ref t13, .ref b15, .ref b16, .ref b17, .ref b18, .ref w23] [(Part.num y).data, (Part.two .pair (.num 1) (.one .left (.num 2))).data, (Part.fn "of").data, (Part.two .give (.fn "of") (.two .pair (.num 1) (.one .left (.num 2)))).data, (Part.fn "on").data, (Part.num (10 ^ Int.toNat 60 - 1 - z)).data, (Part.num (10 ^ 30)).data, (Part.one .left (.num y)).data, (Part.two .give (.num y) (.two .pair (.num 1) (.one .left (.num 2)))).data, (Part.two .plus (.two .pair (.num 1) (.one .left (.num 2))) (.num y)).data, (Part.two .plus (.num (10 ^ Int.toNat 60 - 1 - z)) (.num (10 ^ Int.toNat 60 - 1 - z))).data, (Part.two .give (.two .give (.fn "of") (.num y)) (.two .pair (.num 1) (.one .left (.num 2)))).data] :=
    .cons to23 (.cons tp23 (.cons tf23 (.cons tv23 (.cons tn23 (.cons tg23 (.cons tt23 (.cons x15 (.cons x16 (.cons x17 (.cons x18 (.one x23)))))))))))
  clear e8 s8 n8 e9 s9 n9 e10 s10 n10 e11 s11 n11 e12 s12 n12 e13 s13 n13 e14 s14 n14 e15 s15 n15 e16 s16 n16 e17 s17 n17 e18 s18 n18 e19 s19 n19 e20 s20 n20 e21 s21 n21 e22 s22 n22 e23 s23 n23 r7 r8 r9 r10 r11 r12 r13 r14 r15 r16 r17 r18 r19 r20 r21 r22 tf23 tv23 tn23 tt23 x15 x16 x17 x18 x23 to7 tp7 hP7 c07
  refine g_powI ⟨by decide, by decide, by decide⟩ ?_
  walk_at "gg"
  refine g_powI ⟨by decide, by decide, by decide⟩ ?_
  walk_at "gg"
  rename_i t24 H24 n24 e24 s24 t25 H25 n25 e25 s25 b26 H26 n26 e26 s26 l27 H27 n27 e27 s27 l28 H28 n28 e28 s28 b29 H29 n29 e29 s29 b30 H30 n30 e30 s30 b31 H31 n31 e31 s31 b32 H32 n32 e32 s32 l33 H33 n33 e33 s33 l34 H34 n34 e34 s34 b35 H35 n35 e35 s35 b36 H36 n36 e36 s36 l37 H37 n37 e37 s37 l38 H38 n38 e38 s38
  have r37 := s38
  have r36 := s37.trans r37
  have r35 := s36.trans r36
  have r34 := s35.trans r35
  have r33 := s34.trans r34
  have r32 := s33.trans r33
  have r31 := s32.trans r32
  have r30 := s31.trans r31
  have r29 := s30.trans r30
  have r28 := s29.trans r29
  have r27 := s28.trans r28
  have r26 := s27.trans r27
  have r25 := s26.trans r26
  have r24 := s25.trans r25
  have r23 := s24.trans r24
  have to38 := to23.mono (Same.tk r23)
  have tp38 := tp23.mono (Same.tk r23)
  have tg38 := tg23.mono (Same.tk r23)
  have y26 : Tp H38 (.ref b26) (Part.two .times (.num (10 ^ 30)) (.num (10 ^ 30))).data := .tup (r26 _ _ e26) (.cons (.str _) (.cons (.tup (r24 _ _ e24) (.cons (.str _) (.one (.int _)))) (.one (.tup (r25 _ _ e25) (.cons (.str _) (.one (.int _)))))))
  have y29 : Tp H38 (.ref b29) (Part.whn (.two .pair (.num 1) (.one .left (.num 2))) (.num y) (.num y)).data := .tup (r29 _ _ e29) (.cons (.str _) (.cons tp38 (.cons to38 (.one to38))))
  have y30 : Tp H38 (.ref b30) (Part.two .less (.num y) (.num (10 ^ Int.toNat 60 - 1 - z))).data := .tup (r30 _ _ e30) (.cons (.str _) (.cons to38 (.one tg38)))
  have y31 : Tp H38 (.ref b31) (Part.one .right (.two .pair (.num 1) (.one .left (.num 2)))).data := .tup (r31 _ _ e31) (.cons (.str _) (.one tp38))
  have y32 : Tp H38 (.ref b32) (Part.one .left (.two .pair (.num 1) (.one .left (.num 2)))).data := .tup (r32 _ _ e32) (.cons (.str _) (.one tp38))
  have y35 : Tp H38 (.ref b35) (Part.two .below (.num y) (.num (10 ^ Int.toNat 60 - 1 - z))).data := .tup (r35 _ _ e35) (.cons (.str _) (.cons to38 (.one tg38)))
  have y36 : Tp H38 (.ref b36) (Part.two .plus (.num y) (.two .pair (.num 1) (.one .left (.num 2)))).data := .tup (r36 _ _ e36) (.cons (.str _) (.cons to38 (.one tp38)))
  have hall := Tps.append (T1.mono (Same.tk r23)) (Tps.cons y26 (Tps.cons y29 (Tps.cons y30 (Tps.cons y31 (Tps.cons y32 (Tps.cons y35 (Tps.one y36)))))))
  have hall2 : Tps H38 [.ref a2, .ref a6, .ref f9, .ref v11, .ref o12, .ref g8, .ref t13, .ref b15, .ref b16, .ref b17, .ref b18, .ref w23, .ref b26, .ref b29, .ref b30, .ref b31, .ref b32, .ref b35, .ref b36] ((ends11 y (10 ^ Int.toNat 60 - 1 - z)).map Part.data) := hall
  have e38' : H38 l38 = some (.lst [.ref a2, .ref a6, .ref f9, .ref v11, .ref o12, .ref g8, .ref t13, .ref b15, .ref b16, .ref b17, .ref b18, .ref w23, .ref b26, .ref b29, .ref b30, .ref b31, .ref b32, .ref b35, .ref b36]) := e38
  have hP38 := hP23.same r23
  have c038 := c023.trans (.same r23)
  have hP37 := hP23.same (s24.trans (s25.trans (s26.trans (s27.trans (s28.trans (s29.trans (s30.trans (s31.trans (s32.trans (s33.trans (s34.trans (s35.trans (s36.trans (s37))))))))))))))
  have hl38 : l38 ≠ pen := (hP37.ne n38).1.symm
  refine g_draw hP38 (by show (0 : Int) < 19; decide) (by show (19 : Int).natAbs < 2 ^ 250; decide) fun yy H39 y0 y1 hP39 c39 => ?_
  obtain ⟨v, hz1, _, hz2⟩ := atI_in (xs := [V.ref a2, .ref a6, .ref f9, .ref v11, .ref o12, .ref g8, .ref t13, .ref b15, .ref b16, .ref b17, .ref b18, .ref w23, .ref b26, .ref b29, .ref b30, .ref b31, .ref b32, .ref b35, .ref b36]) y0 y1
  refine g_ixL (.of (c39 _ _ hl38 e38')) hz1 ?_
  obtain ⟨d, hd, td⟩ := hall2.get hz2
  rw [List.getElem?_map] at hd
  obtain ⟨p, hp, rfl⟩ := Option.map_eq_some_iff.mp hd
  have hg : ((10 : Int) ^ Int.toNat 60 - 1 - z).natAbs < 10 ^ 60 := by
    obtain rfl | rfl : z = 0 ∨ z = 1 := by omega
    · decide
    · decide
  exact q v p H39 (td.mono (hP38.tk c39)) (ends_ok (Nat.lt_of_le_of_lt (show y.natAbs ≤ 3 by omega) (by decide)) hg p (List.mem_of_getElem? hp)) hP39 (c038.trans c39)

/-! ### k11: parts mixed of these -/
mutual
theorem Part.ok_more {fs : List Str} : ∀ {p : Part} {sc sc' : List Str}, p.ok fs sc → (∀ x ∈ sc, x ∈ sc') → p.ok fs sc'
  | .num _, _, _, h, _ => h
  | .name x, _, _, h, hs => ⟨hs x h.1, h.2⟩
  | .fn _, _, _, h, _ => h
  | .one _ a, _, _, h, hs => Part.ok_more (p := a) h hs
  | .two _ a b, _, _, h, hs => ⟨Part.ok_more h.1 hs, Part.ok_more h.2 hs⟩
  | .whn a b c, _, _, h, hs => ⟨Part.ok_more h.1 hs, Part.ok_more h.2.1 hs, Part.ok_more h.2.2 hs⟩
  | .letp r a, _, _, h, hs => by
    have hs' : ∀ x ∈ _ ++ r.names, x ∈ _ ++ r.names := fun x hx => by
      rcases List.mem_append.mp hx with hx | hx
      · exact List.mem_append.mpr (.inl (hs x hx))
      · exact List.mem_append.mpr (.inr hx)
    exact ⟨h.1, h.2.1, h.2.2.1, Rows.ok_more h.2.2.2.1 hs', Part.ok_more h.2.2.2.2 hs'⟩
  | .shut _, _, _, h, _ => h.elim
theorem Rows.ok_more {fs : List Str} : ∀ {r : Rows} {sc sc' : List Str}, r.ok fs sc → (∀ x ∈ sc, x ∈ sc') → r.ok fs sc'
  | .nil, _, _, _, _ => trivial
  | .cons _ a r, _, _, h, hs => ⟨Part.ok_more h.1 hs, Rows.ok_more h.2 hs⟩
end
def S11 : Nat → Nat
  | 0 => 8
  | k + 1 => 2 * S11 k + 9
def U11 : Nat → Nat
  | 0 => 0
  | k + 1 => 2 * U11 k + 1
structure MixP (k : Nat) (us : List Str) (p : Part) : Prop where
  ok : p.ok F11 []
  nd : p.rowNames.Nodup
  rows : ∀ y ∈ p.rowNames, y ∈ us
  size : p.size ≤ S11 k
  deep : p.deep ≤ 4 + 2 * k
def spMixed (m : Nat) : Sp := fun vs H Q _ => ∃ (pen L sl : Addr) (k : Nat) (st : List Str), vs = [.ref pen, .int k, .ref sl] ∧ PenAt H pen L ∧ H sl = some (.lst (st.map V.str)) ∧ sl ≠ pen ∧ sl ≠ L ∧ st.Nodup ∧ (∀ y ∈ st, isName y) ∧ U11 k ≤ st.length ∧ k < m ∧
  ∀ (v : V) (p : Part) (st' us : List Str) (H' : Hp), Tp H' v p.data → st = st' ++ us → us.length ≤ U11 k → H' sl = some (.lst (st'.map V.str)) → MixP k us p → PenAt H' pen L → Kf pen sl H H' → Q v H'
theorem kf_chg {pen sl : Addr} {H H' : Hp} (c : Chg pen H H') : Kf pen sl H H' := fun b o n _ e => c b o n e
theorem S11_pos : ∀ k, 8 ≤ S11 k
  | 0 => Nat.le_refl _
  | k + 1 => by have := S11_pos k; show 8 ≤ 2 * S11 k + 9; omega
def kinds11 : List Str := ["give", "plus", "less", "times", "below", "when", "pair", "left", "right", "let"]
theorem MixP.one {k : Nat} {us : List Str} {p : Part} (h : MixP k us p) (j : K1) : MixP (k + 1) us (.one j p) := by
  have h1 := h.size
  have h2 := h.deep
  exact ⟨h.ok, h.nd, h.rows, by show 1 + p.size ≤ 2 * S11 k + 9; omega, by show 1 + p.deep ≤ _; omega⟩
theorem nd_parts {st st1 st2 us1 us2 : List Str} (hn : st.Nodup) (e1 : st = st1 ++ us1) (e2 : st1 = st2 ++ us2) : (us2 ++ us1).Nodup ∧ ∀ x ∈ us2 ++ us1, x ∉ st2 := by
  rw [e1, e2, List.append_assoc] at hn
  rw [List.nodup_append] at hn
  exact ⟨hn.2.1, fun x hx hc => hn.2.2 x hc x hx rfl⟩
theorem nd_two {us1 us2 a b : List Str} (hn : (us2 ++ us1).Nodup) (ha : a.Nodup) (hb : b.Nodup) (h1 : ∀ y ∈ a, y ∈ us1) (h2 : ∀ y ∈ b, y ∈ us2) : (a ++ b).Nodup := by
  rw [List.nodup_append] at hn ⊢
  exact ⟨ha, hb, fun x hx y hy e => hn.2.2 y (h2 y hy) x (h1 x hx) e.symm⟩
theorem MixP.two {k : Nat} {us1 us2 : List Str} {p q : Part} (h : MixP k us1 p) (g : MixP k us2 q) (hn : (us2 ++ us1).Nodup) (j : K2) : MixP (k + 1) (us2 ++ us1) (.two j p q) := by
  have h1 := h.size
  have h2 := h.deep
  have g1 := g.size
  have g2 := g.deep
  refine ⟨⟨h.ok, g.ok⟩, nd_two hn h.nd g.nd h.rows g.rows, fun y hy => ?_, by show 1 + (p.size + q.size) ≤ 2 * S11 k + 9; omega, by show 1 + max p.deep q.deep ≤ _; omega⟩
  have hy' : y ∈ p.rowNames ++ q.rowNames := hy
  rcases List.mem_append.mp hy' with hy | hy
  · exact List.mem_append.mpr (.inr (h.rows y hy))
  · exact List.mem_append.mpr (.inl (g.rows y hy))
theorem MixP.whn {k : Nat} {us1 us2 : List Str} {p q e : Part} (h : MixP k us1 p) (g : MixP k us2 q) (he : EndP e) (hn : (us2 ++ us1).Nodup) : MixP (k + 1) (us2 ++ us1) (.whn p q e) := by
  have h1 := h.size
  have h2 := h.deep
  have g1 := g.size
  have g2 := g.deep
  have e1 := he.size
  have e2 := he.deep
  have hr : (Part.whn p q e).rowNames = p.rowNames ++ q.rowNames := by show p.rowNames ++ (q.rowNames ++ e.rowNames) = _; rw [he.rows, List.append_nil]
  refine ⟨⟨h.ok, g.ok, he.ok⟩, by rw [hr]; exact nd_two hn h.nd g.nd h.rows g.rows, fun y hy => ?_, by show 1 + (p.size + (q.size + e.size)) ≤ 2 * S11 k + 9; omega, by show 1 + max p.deep (max q.deep e.deep) ≤ _; omega⟩
  rw [hr] at hy
  rcases List.mem_append.mp hy with hy | hy
  · exact List.mem_append.mpr (.inr (h.rows y hy))
  · exact List.mem_append.mpr (.inl (g.rows y hy))
theorem MixP.letp {k : Nat} {us1 us2 : List Str} {p q : Part} {x : Str} (h : MixP k us1 p) (g : MixP k us2 q) (hn : (us2 ++ us1).Nodup) (hx : isName x) (hxn : x ∉ us2 ++ us1) : MixP (k + 1) (x :: (us2 ++ us1)) (.letp (.cons x p .nil) (.two .plus (.name x) q)) := by
  have h1 := h.size
  have h2 := h.deep
  have g1 := g.size
  have g2 := g.deep
  have hr : (Part.letp (.cons x p .nil) (.two .plus (.name x) q)).rowNames = x :: (p.rowNames ++ q.rowNames) := by show [x] ++ ((p.rowNames ++ []) ++ ([] ++ q.rowNames)) = _; rw [List.append_nil]; rfl
  have hin : ∀ y ∈ p.rowNames ++ q.rowNames, y ∈ us2 ++ us1 := fun y hy => by
    rcases List.mem_append.mp hy with hy | hy
    · exact List.mem_append.mpr (.inr (h.rows y hy))
    · exact List.mem_append.mpr (.inl (g.rows y hy))
  refine ⟨⟨by show 1 ≤ 4; decide, by show [x] ≠ []; simp, fun y hy => ?_, ⟨Part.ok_more h.ok (fun y hy => by simp at hy), trivial⟩, ⟨by show x ∈ [] ++ [x]; simp, hx⟩, Part.ok_more g.ok fun y hy => by simp at hy⟩, ?_, fun y hy => ?_, ?_, ?_⟩
  · have hy' : y ∈ [x] := hy
    rw [List.mem_singleton.mp hy']; exact hx
  · rw [hr, List.nodup_cons]
    exact ⟨fun hc => hxn (hin x hc), nd_two hn h.nd g.nd h.rows g.rows⟩
  · rw [hr] at hy
    rcases List.mem_cons.mp hy with rfl | hy
    · exact List.mem_cons_self
    · exact List.mem_cons_of_mem _ (hin y hy)
  · show 1 + ((p.size + 0) + (1 + (1 + q.size))) ≤ 2 * S11 k + 9; omega
  · show 1 + max (max p.deep 0) (1 + max 1 q.deep) ≤ _; omega
theorem kf_tk {pen sl L : Addr} {H H' : Hp} {us : List V} (k : Kf pen sl H H') (hP : PenAt H pen L) (e : H sl = some (.lst us)) : Tk H H' := by
  obtain ⟨ns, a, r, hpe, _⟩ := hP
  exact (k.kn hpe e).tk
theorem pure_mixed {K : PySem.W.Frag} {w : World} {m : Nat} : PureOk 3 (spMixed (m + 1)) (t_law_mixed K w spEnd spDraw (spMixed m)) 7 := by
  refine ⟨fun vs H Q E ⟨_, _, _, _, _, e, _⟩ => by rw [e]; rfl, ?_⟩
  rintro vs H Q E ⟨pen, L, sl, k, st, rfl, hP, esl, hsp, hsL, hnd, hnm, hU, hk, q⟩
  show t_law_mixed K w _ _ _ _ [some (.ref pen), some (.int k), some (.ref sl), none, none, none, none] H
  unfold t_law_mixed
  cases k with
  | zero =>
    walk_at "gg"
    exact ⟨pen, L, rfl, hP, fun v p H' tp he hP' c => q v p st [] H' tp (List.append_nil _).symm (Nat.zero_le _) (c _ _ hsp esl) ⟨he.ok, by rw [he.rows]; exact List.nodup_nil, fun y hy => by rw [he.rows] at hy; simp at hy, he.size, he.deep⟩ hP' (kf_chg c)⟩
  | succ k =>
    have hk1 : ((k + 1 : Nat) : Int) - 1 = (k : Nat) := by omega
    have hU2 : 2 * U11 k + 1 ≤ st.length := hU
    walk_at "gg"
    rename_i l1 H1 n1 e1 s1
    have hP1 := hP.same s1
    have hl1 : l1 ≠ pen := (hP.ne n1).1.symm
    walk_at "draw"
    intro y H2 y0 y1 hP2 c2
    have e2 : H2 l1 = some (.lst (kinds11.map V.str)) := c2 _ _ hl1 e1
    obtain ⟨kd, hix, hkd⟩ : ∃ kd, atI (kinds11.map V.str) y = some (.str kd) ∧ kd ∈ kinds11 := by
      obtain rfl | rfl | rfl | rfl | rfl | rfl | rfl | rfl | rfl | rfl : y = 0 ∨ y = 1 ∨ y = 2 ∨ y = 3 ∨ y = 4 ∨ y = 5 ∨ y = 6 ∨ y = 7 ∨ y = 8 ∨ y = 9 := by omega
      all_goals exact ⟨_, rfl, by decide⟩
    refine g_ixL (.of e2) hix ?_
    have kf2 : Kf pen sl H H2 := (Kf.same s1).trans (kf_chg c2)
    have esl2 : H2 sl = some (.lst (st.map V.str)) := c2 _ _ hsp (s1 _ _ esl)
    clear e2 c2 e1 s1 n1 hP1 esl hP hix
    walk_at "gg"
    rw [hk1]
    refine ⟨pen, L, sl, k, st, rfl, hP2, esl2, hsp, hsL, hnd, hnm, by omega, by omega, fun v1 p1 st1 us1 H3 tp1 hst1 hu1 esl3 m1 hP3 kf3 => ?_⟩
    have hlen1 : st.length = st1.length + us1.length := by rw [hst1, List.length_append]
    have kf03 := kf2.trans kf3
    have hnd1 : st1.Nodup := by rw [hst1, List.nodup_append] at hnd; exact hnd.1
    have hnm1 : ∀ y ∈ st1, isName y := fun y hy => hnm y (by rw [hst1]; exact List.mem_append.mpr (.inl hy))
    clear kf2 kf3 esl2 hP2
    simp only [kinds11, List.mem_cons, List.not_mem_nil, or_false] at hkd
    rcases hkd with rfl | rfl | rfl | rfl | rfl | rfl | rfl | rfl | rfl | rfl
    · walk_at "gg"
      rename_i a4 H4 n4 e4 s4
      rw [hk1]
      have esl4 := s4 _ _ esl3
      have hP4 := hP3.same s4
      refine ⟨pen, L, sl, k, st1, rfl, hP4, esl4, hsp, hsL, hnd1, hnm1, by omega, by omega, fun v2 p2 st2 us2 H5 tp2 hst2 hu2 esl5 m2 hP5 kf5 => ?_⟩
      have hlen2 : st1.length = st2.length + us2.length := by rw [hst2, List.length_append]
      obtain ⟨hn12, hno⟩ := nd_parts hnd hst1 hst2
      have tp15 := (tp1.mono (Same.tk s4)).mono (kf_tk kf5 hP4 esl4)
      have kf05 := kf03.trans ((Kf.same s4).trans kf5)
      have hst12 : st = st2 ++ (us2 ++ us1) := by rw [hst1, hst2, List.append_assoc]
      clear tp1 esl3 esl4 hP3 hP4 s4 kf03 kf5 e4 n4
      walk_at "gg"
      rename_i a6 H6 n6 e6 s6
      exact q _ (.two .give p1 p2) st2 (us2 ++ us1) H6 (.tup e6 (.cons (.str _) (.cons (tp15.mono (Same.tk s6)) (.one (tp2.mono (Same.tk s6)))))) hst12 (by rw [List.length_append]; show _ ≤ 2 * U11 k + 1; omega) (s6 _ _ esl5) (m1.two m2 hn12 .give) (hP5.same s6) (kf05.trans (Kf.same s6))
    · walk_at "gg"
      rename_i a4 H4 n4 e4 s4
      rw [hk1]
      have esl4 := s4 _ _ esl3
      have hP4 := hP3.same s4
      refine ⟨pen, L, sl, k, st1, rfl, hP4, esl4, hsp, hsL, hnd1, hnm1, by omega, by omega, fun v2 p2 st2 us2 H5 tp2 hst2 hu2 esl5 m2 hP5 kf5 => ?_⟩
      have hlen2 : st1.length = st2.length + us2.length := by rw [hst2, List.length_append]
      obtain ⟨hn12, hno⟩ := nd_parts hnd hst1 hst2
      have tp15 := (tp1.mono (Same.tk s4)).mono (kf_tk kf5 hP4 esl4)
      have kf05 := kf03.trans ((Kf.same s4).trans kf5)
      have hst12 : st = st2 ++ (us2 ++ us1) := by rw [hst1, hst2, List.append_assoc]
      clear tp1 esl3 esl4 hP3 hP4 s4 kf03 kf5 e4 n4
      walk_at "gg"
      rename_i a6 H6 n6 e6 s6
      exact q _ (.two .plus p1 p2) st2 (us2 ++ us1) H6 (.tup e6 (.cons (.str _) (.cons (tp15.mono (Same.tk s6)) (.one (tp2.mono (Same.tk s6)))))) hst12 (by rw [List.length_append]; show _ ≤ 2 * U11 k + 1; omega) (s6 _ _ esl5) (m1.two m2 hn12 .plus) (hP5.same s6) (kf05.trans (Kf.same s6))
    · walk_at "gg"
      rename_i a4 H4 n4 e4 s4
      rw [hk1]
      have esl4 := s4 _ _ esl3
      have hP4 := hP3.same s4
      refine ⟨pen, L, sl, k, st1, rfl, hP4, esl4, hsp, hsL, hnd1, hnm1, by omega, by omega, fun v2 p2 st2 us2 H5 tp2 hst2 hu2 esl5 m2 hP5 kf5 => ?_⟩
      have hlen2 : st1.length = st2.length + us2.length := by rw [hst2, List.length_append]
      obtain ⟨hn12, hno⟩ := nd_parts hnd hst1 hst2
      have tp15 := (tp1.mono (Same.tk s4)).mono (kf_tk kf5 hP4 esl4)
      have kf05 := kf03.trans ((Kf.same s4).trans kf5)
      have hst12 : st = st2 ++ (us2 ++ us1) := by rw [hst1, hst2, List.append_assoc]
      clear tp1 esl3 esl4 hP3 hP4 s4 kf03 kf5 e4 n4
      walk_at "gg"
      rename_i a6 H6 n6 e6 s6
      exact q _ (.two .less p1 p2) st2 (us2 ++ us1) H6 (.tup e6 (.cons (.str _) (.cons (tp15.mono (Same.tk s6)) (.one (tp2.mono (Same.tk s6)))))) hst12 (by rw [List.length_append]; show _ ≤ 2 * U11 k + 1; omega) (s6 _ _ esl5) (m1.two m2 hn12 .less) (hP5.same s6) (kf05.trans (Kf.same s6))
    · walk_at "gg"
      rename_i a4 H4 n4 e4 s4
      rw [hk1]
      have esl4 := s4 _ _ esl3
      have hP4 := hP3.same s4
      refine ⟨pen, L, sl, k, st1, rfl, hP4, esl4, hsp, hsL, hnd1, hnm1, by omega, by omega, fun v2 p2 st2 us2 H5 tp2 hst2 hu2 esl5 m2 hP5 kf5 => ?_⟩
      have hlen2 : st1.length = st2.length + us2.length := by rw [hst2, List.length_append]
      obtain ⟨hn12, hno⟩ := nd_parts hnd hst1 hst2
      have tp15 := (tp1.mono (Same.tk s4)).mono (kf_tk kf5 hP4 esl4)
      have kf05 := kf03.trans ((Kf.same s4).trans kf5)
      have hst12 : st = st2 ++ (us2 ++ us1) := by rw [hst1, hst2, List.append_assoc]
      clear tp1 esl3 esl4 hP3 hP4 s4 kf03 kf5 e4 n4
      walk_at "gg"
      rename_i a6 H6 n6 e6 s6
      exact q _ (.two .times p1 p2) st2 (us2 ++ us1) H6 (.tup e6 (.cons (.str _) (.cons (tp15.mono (Same.tk s6)) (.one (tp2.mono (Same.tk s6)))))) hst12 (by rw [List.length_append]; show _ ≤ 2 * U11 k + 1; omega) (s6 _ _ esl5) (m1.two m2 hn12 .times) (hP5.same s6) (kf05.trans (Kf.same s6))
    · walk_at "gg"
      rename_i a4 H4 n4 e4 s4
      rw [hk1]
      have esl4 := s4 _ _ esl3
      have hP4 := hP3.same s4
      refine ⟨pen, L, sl, k, st1, rfl, hP4, esl4, hsp, hsL, hnd1, hnm1, by omega, by omega, fun v2 p2 st2 us2 H5 tp2 hst2 hu2 esl5 m2 hP5 kf5 => ?_⟩
      have hlen2 : st1.length = st2.length + us2.length := by rw [hst2, List.length_append]
      obtain ⟨hn12, hno⟩ := nd_parts hnd hst1 hst2
      have tp15 := (tp1.mono (Same.tk s4)).mono (kf_tk kf5 hP4 esl4)
      have kf05 := kf03.trans ((Kf.same s4).trans kf5)
      have hst12 : st = st2 ++ (us2 ++ us1) := by rw [hst1, hst2, List.append_assoc]
      clear tp1 esl3 esl4 hP3 hP4 s4 kf03 kf5 e4 n4
      walk_at "gg"
      rename_i a6 H6 n6 e6 s6
      exact q _ (.two .below p1 p2) st2 (us2 ++ us1) H6 (.tup e6 (.cons (.str _) (.cons (tp15.mono (Same.tk s6)) (.one (tp2.mono (Same.tk s6)))))) hst12 (by rw [List.length_append]; show _ ≤ 2 * U11 k + 1; omega) (s6 _ _ esl5) (m1.two m2 hn12 .below) (hP5.same s6) (kf05.trans (Kf.same s6))
    · walk_at "gg"
      rename_i a4 H4 n4 e4 s4
      rw [hk1]
      have esl4 := s4 _ _ esl3
      have hP4 := hP3.same s4
      refine ⟨pen, L, sl, k, st1, rfl, hP4, esl4, hsp, hsL, hnd1, hnm1, by omega, by omega, fun v2 p2 st2 us2 H5 tp2 hst2 hu2 esl5 m2 hP5 kf5 => ?_⟩
      have hlen2 : st1.length = st2.length + us2.length := by rw [hst2, List.length_append]
      obtain ⟨hn12, hno⟩ := nd_parts hnd hst1 hst2
      have tp15 := (tp1.mono (Same.tk s4)).mono (kf_tk kf5 hP4 esl4)
      have kf05 := kf03.trans ((Kf.same s4).trans kf5)
      have hst12 : st = st2 ++ (us2 ++ us1) := by rw [hst1, hst2, List.append_assoc]
      clear tp1 esl3 esl4 hP3 hP4 s4 kf03 kf5 e4 n4
      walk_at "gg"
      refine ⟨pen, L, rfl, hP5, fun v3 p3 H6 tp3 he hP6 c6 => ?_⟩
      have k56 := hP5.tk c6
      walk_at "gg"
      rename_i a7 H7 n7 e7 s7
      exact q _ (.whn p1 p2 p3) st2 (us2 ++ us1) H7 (.tup e7 (.cons (.str _) (.cons ((tp15.mono k56).mono (Same.tk s7)) (.cons ((tp2.mono k56).mono (Same.tk s7)) (.one (tp3.mono (Same.tk s7))))))) hst12 (by rw [List.length_append]; show _ ≤ 2 * U11 k + 1; omega) (s7 _ _ (c6 _ _ hsp esl5)) (m1.whn m2 he hn12) (hP6.same s7) (kf05.trans ((kf_chg c6).trans (Kf.same s7)))
    · walk_at "gg"
      rename_i a4 H4 n4 e4 s4
      rw [hk1]
      have esl4 := s4 _ _ esl3
      have hP4 := hP3.same s4
      refine ⟨pen, L, sl, k, st1, rfl, hP4, esl4, hsp, hsL, hnd1, hnm1, by omega, by omega, fun v2 p2 st2 us2 H5 tp2 hst2 hu2 esl5 m2 hP5 kf5 => ?_⟩
      have hlen2 : st1.length = st2.length + us2.length := by rw [hst2, List.length_append]
      obtain ⟨hn12, hno⟩ := nd_parts hnd hst1 hst2
      have tp15 := (tp1.mono (Same.tk s4)).mono (kf_tk kf5 hP4 esl4)
      have kf05 := kf03.trans ((Kf.same s4).trans kf5)
      have hst12 : st = st2 ++ (us2 ++ us1) := by rw [hst1, hst2, List.append_assoc]
      clear tp1 esl3 esl4 hP3 hP4 s4 kf03 kf5 e4 n4
      walk_at "gg"
      rename_i a6 H6 n6 e6 s6
      exact q _ (.two .pair p1 p2) st2 (us2 ++ us1) H6 (.tup e6 (.cons (.str _) (.cons (tp15.mono (Same.tk s6)) (.one (tp2.mono (Same.tk s6)))))) hst12 (by rw [List.length_append]; show _ ≤ 2 * U11 k + 1; omega) (s6 _ _ esl5) (m1.two m2 hn12 .pair) (hP5.same s6) (kf05.trans (Kf.same s6))
    · walk_at "gg"
      rename_i a4 H4 n4 e4 s4 a5 H5 n5 e5 s5
      have s35 := s4.trans s5
      exact q _ (.one .left p1) st1 us1 H5 (.tup e5 (.cons (.str _) (.one (tp1.mono (Same.tk s35))))) hst1 (by show us1.length ≤ 2 * U11 k + 1; omega) (s35 _ _ esl3) (m1.one .left) (hP3.same s35) (kf03.trans (Kf.same s35))
    · walk_at "gg"
      rename_i a4 H4 n4 e4 s4 a5 H5 n5 e5 s5
      have s35 := s4.trans s5
      exact q _ (.one .right p1) st1 us1 H5 (.tup e5 (.cons (.str _) (.one (tp1.mono (Same.tk s35))))) hst1 (by show us1.length ≤ 2 * U11 k + 1; omega) (s35 _ _ esl3) (m1.one .right) (hP3.same s35) (kf03.trans (Kf.same s35))
    · walk_at "gg"
      rename_i a4 H4 n4 e4 s4
      rw [hk1]
      have esl4 := s4 _ _ esl3
      have hP4 := hP3.same s4
      refine ⟨pen, L, sl, k, st1, rfl, hP4, esl4, hsp, hsL, hnd1, hnm1, by omega, by omega, fun v2 p2 st2 us2 H5 tp2 hst2 hu2 esl5 m2 hP5 kf5 => ?_⟩
      have hlen2 : st1.length = st2.length + us2.length := by rw [hst2, List.length_append]
      obtain ⟨hn12, hno⟩ := nd_parts hnd hst1 hst2
      have tp15 := (tp1.mono (Same.tk s4)).mono (kf_tk kf5 hP4 esl4)
      have kf05 := kf03.trans ((Kf.same s4).trans kf5)
      have hst12 : st = st2 ++ (us2 ++ us1) := by rw [hst1, hst2, List.append_assoc]
      clear tp1 esl3 esl4 hP3 hP4 s4 kf03 kf5 e4 n4
      walk_at "gg"
      obtain ⟨st3, x, rfl⟩ : ∃ st3 x, st2 = st3 ++ [x] := by
        rcases List.eq_nil_or_concat st2 with h | ⟨l, x, h⟩
        · rw [h] at hlen2
          have hlen2' : st1.length = 0 + us2.length := hlen2
          omega
        · exact ⟨l, x, by rw [h, List.concat_eq_append]⟩
      rw [List.map_append] at esl5
      refine g_pop esl5 ?_
      walk_at "gg"
      rename_i H6 e6 c6 a7 H7 n7 e7 s7 a8 H8 n8 e8 s8 a9 H9 n9 e9 s9 a10 H10 n10 e10 s10 a11 H11 n11 e11 s11
      have s611 := s7.trans (s8.trans (s9.trans (s10.trans s11)))
      have k511 : Tk H5 H11 := (c6.tkl esl5).trans (Same.tk s611)
      have hx : isName x := hnm x (by rw [hst12]; simp)
      have hxn : x ∉ us2 ++ us1 := fun hc => hno x hc (by simp)
      refine q _ (.letp (.cons x p1 .nil) (.two .plus (.name x) p2)) st3 (x :: (us2 ++ us1)) H11 ?_ (by rw [hst12, List.append_assoc]; rfl) (by rw [List.length_cons, List.length_append]; show _ ≤ 2 * U11 k + 1; omega) (s611 _ _ e6) (m1.letp m2 hn12 hx hxn) ((hP5.chg c6 hsp.symm hsL.symm).same s611) (kf05.trans fun b o n' m' e => s611 _ _ (c6 _ _ m' e))
      exact .tup e11 (.cons (.str _) (.cons (.tup (s11 _ _ (s10 _ _ (s9 _ _ e8))) (.one (.tup (s11 _ _ (s10 _ _ (s9 _ _ (s8 _ _ e7)))) (.cons (.str _) (.one (tp15.mono k511)))))) (.one (.tup (s11 _ _ e10) (.cons (.str _) (.cons (.tup (s11 _ _ (s10 _ _ e9)) (.cons (.str _) (.one (.str _)))) (.one (tp2.mono k511))))))))

/-! ### k11: the law -/
def fs11 : List Fn1 := [⟨"of", ["a", "b"], .two .pair (.name "b") (.name "a")⟩, ⟨"on", [], .fn "on"⟩]
theorem fine11 {k : Nat} {us : List Str} {p : Part} (h : MixP k us p) (hk : k ≤ 2) (hn : ∀ y ∈ us, isName y) : (Prog.mk fs11 p).fine := by
  have hS : S11 k ≤ 59 := by
    obtain rfl | rfl | rfl : k = 0 ∨ k = 1 ∨ k = 2 := by omega
    · decide
    · decide
    · decide
  have h1 := h.size
  have h2 := h.deep
  have ha : isName "a" := ⟨by decide, by decide, by decide⟩
  have hb : isName "b" := ⟨by decide, by decide, by decide⟩
  refine ⟨by show 2 ≤ 8; decide, by show (["of", "on"] : List Str).Nodup; decide, fun f hf => ?_, h.ok, by show p.deep ≤ 12; omega, by show p.size ≤ 60; omega, h.nd, fun x hx => ⟨hn x (h.rows x hx), by simp⟩⟩
  have hf' : f ∈ fs11 := hf
  unfold fs11 at hf'
  simp only [List.mem_cons, List.not_mem_nil, or_false] at hf'
  rcases hf' with rfl | rfl
  · exact ⟨nm_of, by decide, by decide, fun x hx => by
      simp only [List.mem_cons, List.not_mem_nil, or_false] at hx
      rcases hx with rfl | rfl
      · exact ha
      · exact hb, ⟨⟨⟨by decide, hb⟩, ⟨by decide, ha⟩⟩, by decide, by decide, by decide, fun x hx => by have hx' : x ∈ ([] : List Str) := hx; simp at hx'⟩⟩
  · exact ⟨nm_on, by decide, by decide, fun x hx => by simp at hx, ⟨⟨by show ("on" : Str) ∈ (["of", "on"] : List Str); decide, nm_on⟩, by decide, by decide, by decide, fun x hx => by have hx' : x ∈ ([] : List Str) := hx; simp at hx'⟩⟩
theorem SqL.tos {K : PySem.W.Frag} {H H' : Hp} {a : Addr} {xs : List V} (s : Same H H') (h : SqL K H a xs) : SqL K H' a xs := h.elim (fun h => .inl (h.elim (fun h => .inl (s _ _ h)) fun ⟨o, h⟩ => .inr ⟨o, s _ _ h⟩)) .inr
theorem depth_strs (ss : List Str) : PyData.depthAll (ss.map PyData.str) ≤ 1 := by
  induction ss with
  | nil => simp [PyData.depthAll]
  | cons s ss ih => simp only [List.map_cons, PyData.depthAll, PyData.depth]; omega
theorem strs_likeN {K : PySem.W.Frag} {H : Hp} {a b : Addr} {ss : List Str} {n : Nat} (hn : 2 ≤ n) (h : H a = some (.lst (ss.map V.str))) (h' : H b = some (.lst (ss.map V.str))) : LkR K H (Lk K H n) (.ref a) (.ref b) :=
  .inl ⟨_, _, _, _, rfl, rfl, .of h, .of h', Tps.like (Tps.strs ss) (Tps.strs ss) (by have := depth_strs ss; omega)⟩
theorem told_dp (r : Res) : PyData.depth r.told < 150 := by
  have key : ∀ ds : List PyData, PyData.depthAll ds ≤ 2 → PyData.depth (.tuple ds) < 150 := fun ds h => by simp only [PyData.depth]; omega
  cases r with
  | more => exact key _ (by simp [PyData.depth, PyData.depthAll])
  | fault w => exact key _ (by simp [PyData.depth, PyData.depthAll])
  | worth p =>
    show PyData.depth p.told < 150
    unfold Part.told
    split
    · exact key _ (by simp [PyData.depth, PyData.depthAll])
    · exact key _ (by simp [PyData.depth, PyData.depthAll])
    · split
      · exact key _ (by simp [PyData.depth, PyData.depthAll])
      · exact key _ (by simp [PyData.depth, PyData.depthAll])
theorem pure_law {K : PySem.W.Frag} {w : World} : PureOk 1 (spLaw K) (t_law K w (spPen K) (spMixed 3) spDraw spLCome spLed) 10 := by
  refine ⟨fun vs H Q E ⟨_, _, e, _⟩ => by rw [e]; rfl, ?_⟩
  rintro vs H Q E ⟨sa, ns, rfl, hS, hl, q⟩
  show t_law K w _ _ _ _ _ _ [some (.ref sa), none, none, none, none, none, none, none, none, none] H
  unfold t_law
  walk_at "gg"
  refine ⟨sa, ns, rfl, hS, hl, fun pen L H1 npen nL hP1 s1 => ?_⟩
  have hS1 := SqL.tos s1 hS
  walk_at "gg"
  rename_i a2 H2 n2 e2 s2 a3 H3 n3 e3 s3 a4 H4 n4 e4 s4 a5 H5 n5 e5 s5 a6 H6 n6 e6 s6 a7 H7 n7 e7 s7 a8 H8 n8 e8 s8 a9 H9 n9 e9 s9 a10 H10 n10 e10 s10
  have r9 := s10
  have r8 := s9.trans r9
  have r7 := s8.trans r8
  have r6 := s7.trans r7
  have r5 := s6.trans r6
  have r4 := s5.trans r5
  have r3 := s4.trans r4
  have r2 := s3.trans r3
  have r1 := s2.trans r2
  have hP10 := hP1.same r1
  have tA : Tp H10 (.ref a2) (.tuple [.str "a", .str "b"]) := .tup (r2 _ _ e2) (.cons (.str _) (.one (.str _)))
  have tB : Tp H10 (.ref a3) (Part.name "b").data := .tup (r3 _ _ e3) (.cons (.str _) (.one (.str _)))
  have tC : Tp H10 (.ref a4) (Part.name "a").data := .tup (r4 _ _ e4) (.cons (.str _) (.one (.str _)))
  have tD : Tp H10 (.ref a5) (Part.two .pair (.name "b") (.name "a")).data := .tup (r5 _ _ e5) (.cons (.str _) (.cons tB (.one tC)))
  have tE : Tp H10 (.ref a6) (Fn1.data ⟨"of", ["a", "b"], .two .pair (.name "b") (.name "a")⟩) := .tup (r6 _ _ e6) (.cons (.str _) (.cons tA (.one tD)))
  have tF : Tp H10 (.ref a9) (Fn1.data ⟨"on", [], .fn "on"⟩) := .tup (r9 _ _ e9) (.cons (.str _) (.cons (.tup (r7 _ _ e7) .nil) (.one (.tup (r8 _ _ e8) (.cons (.str _) (.one (.str _)))))))
  have tfs10 : Tp H10 (.ref a10) (.tuple (fs11.map Fn1.data)) := .tup e10 (.cons tE (.one tF))
  clear tA tB tC tD tE tF
  refine g_lenL (SqL.tos r1 hS1) ?_
  clear e2 e3 e4 e5 e6 e7 e8 e9 e10 s2 s3 s4 s5 s6 s7 s8 s9 s10 r1 r2 r3 r4 r5 r6 r7 r8 r9 n2 n3 n4 n5 n6 n7 n8 n9 n10 hS1 hP1 s1
  walk_at "gg"
  refine g_isrng (by omega) (by omega) ?_
  generalize hN : (max 1 (min 20 ((ns.map V.int).length : Int))).toNat = N
  refine for_any N (fun i σ H' => ∃ x3 x4 x5 x6 x7 x8 x9, σ = [some (.ref sa), some (.ref pen), some (.ref a10), x3, x4, x5, x6, x7, x8, x9] ∧ PenAt H' pen L ∧ Tp H' (.ref a10) (.tuple (fs11.map Fn1.data))) ⟨_, _, _, _, _, _, _, rfl, hP10, tfs10⟩ (fun i σ H' hi _ => hi) (fun σ H' _ => Nat.le_refl _) ?_ ?_
  rotate_left
  · rintro σ H6 ⟨x3, x4, x5, x6, x7, x8, x9, rfl, _⟩
    walk_at "gg"
    exact q _
  rintro i x σ _ H2 hi ⟨x3, x4, x5, x6, x7, x8, x9, rfl, hP2, tfs2⟩ ⟨rfl, rfl⟩
  clear hP10 tfs10
  walk_at "gg"
  walk_at "draw"
  intro y H3 y0 y1 hP3 c3
  have tfs3 := tfs2.mono (hP2.tk c3)
  clear tfs2 c3 hP2
  obtain ⟨k, hk, hk1, hk2⟩ : ∃ k : Nat, 1 + y = (k : Int) ∧ 1 ≤ k ∧ k ≤ 2 := ⟨(1 + y).toNat, by omega, by omega, by omega⟩
  walk_at "gg"
  rename_i l4 H4 n4 e4 s4
  rw [hk]
  have hP4 := hP3.same s4
  have e4' : H4 l4 = some (.lst ((["u", "v", "w"] : List Str).map V.str)) := e4
  have tfs4 := tfs3.mono (Same.tk s4)
  obtain ⟨hl4, hl4'⟩ := hP3.ne n4
  have hnm : ∀ y ∈ (["u", "v", "w"] : List Str), isName y := by
    intro y hy
    simp only [List.mem_cons, List.not_mem_nil, or_false] at hy
    rcases hy with rfl | rfl | rfl <;> exact ⟨by decide, by decide, by decide⟩
  have hU : U11 k ≤ 3 := by
    obtain rfl | rfl : k = 1 ∨ k = 2 := by omega
    · decide
    · decide
  clear e4 s4 n4 tfs3 hP3
  refine ⟨pen, L, l4, k, ["u", "v", "w"], rfl, hP4, e4', hl4.symm, hl4'.symm, by decide, hnm, hU, by omega, fun v p st' us H5 tp5 hst hu hsl hm hP5 kf5 => ?_⟩
  have hfine := fine11 hm hk2 (fun y hy => hnm y (by rw [hst]; exact List.mem_append.mpr (.inr hy)))
  have tfs5 := tfs4.mono (kf_tk kf5 hP4 e4')
  have hsz := hfine.asked.size
  have hms : p.ms F11 (fun _ => False) := Part.ok_ms hfine.asked.ok (fun x => by simp) hfine.asked.nd fun x hx hc => by simp at hc
  have hsd := hfine.asked.sd
  have hwt1 := Part.wt_ok hfine.asked.ok
  have hdp := hfine.asked.deep
  clear hsl kf5 tfs4 e4' hP4
  walk_at "gg"
  rename_i a6 H6 n6 e6 s6 d7 H7 n7 e7 s7 a8 H8 n8 e8 s8
  have s58 := s6.trans (s7.trans s8)
  have hP8 := hP5.same s58
  have tp8 := tp5.mono (Same.tk s58)
  have tfs8 := tfs5.mono (Same.tk s58)
  have tP8 : Tp H8 (.ref a6) (Prog.mk fs11 p).data := .tup (s8 _ _ (s7 _ _ e6)) (.cons tfs8 (.one tp8))
  have hreal : RealA H8 (.ref d7) .nil := RealA.mk (s8 _ _ e7) (DictO.at (Kn.refl _) DictO.nil)
  have hwh : (Clo.mk p .nil).whole = p := Part.put_none _
  have hsz' : p.size ≤ 60 := hsz
  have hwt' : p.wt = 3 * p.deep := hwt1
  have hdp' : p.deep ≤ 12 := hdp
  clear s58 hP5 tp5 tfs5 e6 e7 s6 s7 s8 n6 n7 n8
  refine ⟨.ref a6, .ref a8, 24, Prog.mk fs11 p, ⟨p, .nil⟩, rfl, tP8, hfine, ⟨a8, v, .ref d7, rfl, e8, tp8, hreal⟩, ⟨hms, by show 0 + p.size ≤ 64; omega, trivial⟩, by decide, fun r wl word y H9 hwl0 e9 e9w hc9 s9 => ?_⟩
  rw [hwh] at e9w hc9
  have hP9 := hP8.same s9
  have tP9 := tP8.mono (Same.tk s9)
  have tp9 := tp8.mono (Same.tk s9)
  have tfs9 := tfs8.mono (Same.tk s9)
  clear hP8 tP8 tp8 tfs8 hreal e8 s9 hwl0
  cases hres : (runM (Prog.mk fs11 p) 24 p).1 with
  | more =>
    rw [hres] at hc9
    obtain ⟨rfl, rfl⟩ := hc9
    walk_at "gg"
    rename_i t10 Hk nk ek s9k
    have tdu : Tp Hk (.ref t10) (runM (Prog.mk fs11 p) 24 p).1.told := by rw [hres]; exact .tup ek (.one (.str _))
    have tPk := tP9.mono (Same.tk s9k)
    have tpk := tp9.mono (Same.tk s9k)
    have ewk := s9k _ _ e9w
    have tfk := tfs9.mono (Same.tk s9k)
    have hPk := hP9.same s9k
    clear s9k e9w tP9 tp9 hP9 tfs9
    refine ⟨v, .ref a6, Prog.mk fs11 p, p, 24, rfl, tPk, hfine, tpk, hsd, by omega, by decide, fun t2 wl2 y2 Hx ex rx hwl2 ew2 sx => ?_⟩
    walk_at "gg"
    rename_i az Hz nz ez sz
    refine g_neLk (n := 150) (.inr ⟨_, _, _, _, rfl, rfl, .of (sz _ _ ex), .of ez, .cons (Tp.like (rx.mono (Same.tk sz)) (tdu.mono (Same.tk (sx.trans sz))) (told_dp _)) (.cons (.inr (.inr (strs_likeN (n := 149) (by decide) (sz _ _ ew2) (sz _ _ (sx _ _ ewk))))) .nil)⟩) (Nat.le_refl _) ?_
    walk_at "gg"
    exact ⟨_, _, _, _, _, _, _, rfl, hPk.same (sx.trans sz), tfk.mono (Same.tk (sx.trans sz))⟩
  | fault wd =>
    rw [hres] at hc9
    obtain ⟨rfl, rfl⟩ := hc9
    walk_at "gg"
    rename_i t10 Hk nk ek s9k
    have tdu : Tp Hk (.ref t10) (runM (Prog.mk fs11 p) 24 p).1.told := by rw [hres]; exact .tup ek (.cons (.str _) (.one (.str _)))
    have tPk := tP9.mono (Same.tk s9k)
    have tpk := tp9.mono (Same.tk s9k)
    have ewk := s9k _ _ e9w
    have tfk := tfs9.mono (Same.tk s9k)
    have hPk := hP9.same s9k
    clear s9k e9w tP9 tp9 hP9 tfs9
    refine ⟨v, .ref a6, Prog.mk fs11 p, p, 24, rfl, tPk, hfine, tpk, hsd, by omega, by decide, fun t2 wl2 y2 Hx ex rx hwl2 ew2 sx => ?_⟩
    walk_at "gg"
    rename_i az Hz nz ez sz
    refine g_neLk (n := 150) (.inr ⟨_, _, _, _, rfl, rfl, .of (sz _ _ ex), .of ez, .cons (Tp.like (rx.mono (Same.tk sz)) (tdu.mono (Same.tk (sx.trans sz))) (told_dp _)) (.cons (.inr (.inr (strs_likeN (n := 149) (by decide) (sz _ _ ew2) (sz _ _ (sx _ _ ewk))))) .nil)⟩) (Nat.le_refl _) ?_
    walk_at "gg"
    exact ⟨_, _, _, _, _, _, _, rfl, hPk.same (sx.trans sz), tfk.mono (Same.tk (sx.trans sz))⟩
  | worth z =>
    rw [hres] at hc9
    obtain ⟨rfl, fl, wt, hw, hg, rfl⟩ := hc9
    cases wt with
    | num n =>
      obtain ⟨t, rfl, et⟩ := hw
      walk_at "gg"
      rename_i t10 Hk nk ek s9k
      have tdu : Tp Hk (.ref t) (runM (Prog.mk fs11 p) 24 p).1.told := by rw [hres]; exact .tup (s9k _ _ et) (.cons (.str _) (.one (.int _)))
      have tPk := tP9.mono (Same.tk s9k)
      have tpk := tp9.mono (Same.tk s9k)
      have ewk := s9k _ _ e9w
      have tfk := tfs9.mono (Same.tk s9k)
      have hPk := hP9.same s9k
      clear s9k e9w tP9 tp9 hP9 tfs9
      refine ⟨v, .ref a6, Prog.mk fs11 p, p, 24, rfl, tPk, hfine, tpk, hsd, by omega, by decide, fun t2 wl2 y2 Hx ex rx hwl2 ew2 sx => ?_⟩
      walk_at "gg"
      rename_i az Hz nz ez sz
      refine g_neLk (n := 150) (.inr ⟨_, _, _, _, rfl, rfl, .of (sz _ _ ex), .of ez, .cons (Tp.like (rx.mono (Same.tk sz)) (tdu.mono (Same.tk (sx.trans sz))) (told_dp _)) (.cons (.inr (.inr (strs_likeN (n := 149) (by decide) (sz _ _ ew2) (sz _ _ (sx _ _ ewk))))) .nil)⟩) (Nat.le_refl _) ?_
      walk_at "gg"
      exact ⟨_, _, _, _, _, _, _, rfl, hPk.same (sx.trans sz), tfk.mono (Same.tk (sx.trans sz))⟩
    | pair a b e =>
      obtain ⟨t, u1, u2, rfl, et, _, _⟩ := hw
      walk_at "gg"
      rename_i t10 H10' n10 e10 s10 t11 Hk nk ek sk
      have s9k := s10.trans sk
      have tdu : Tp Hk (.ref t11) (runM (Prog.mk fs11 p) 24 p).1.told := by rw [hres]; exact .tup ek (.one (.str _))
      have tPk := tP9.mono (Same.tk s9k)
      have tpk := tp9.mono (Same.tk s9k)
      have ewk := s9k _ _ e9w
      have tfk := tfs9.mono (Same.tk s9k)
      have hPk := hP9.same s9k
      clear s9k e9w tP9 tp9 hP9 tfs9
      refine ⟨v, .ref a6, Prog.mk fs11 p, p, 24, rfl, tPk, hfine, tpk, hsd, by omega, by decide, fun t2 wl2 y2 Hx ex rx hwl2 ew2 sx => ?_⟩
      walk_at "gg"
      rename_i az Hz nz ez sz
      refine g_neLk (n := 150) (.inr ⟨_, _, _, _, rfl, rfl, .of (sz _ _ ex), .of ez, .cons (Tp.like (rx.mono (Same.tk sz)) (tdu.mono (Same.tk (sx.trans sz))) (told_dp _)) (.cons (.inr (.inr (strs_likeN (n := 149) (by decide) (sz _ _ ew2) (sz _ _ (sx _ _ ewk))))) .nil)⟩) (Nat.le_refl _) ?_
      walk_at "gg"
      exact ⟨_, _, _, _, _, _, _, rfl, hPk.same (sx.trans sz), tfk.mono (Same.tk (sx.trans sz))⟩
    | fn f gs =>
      obtain ⟨t, g, gus, rfl, et, eg, _, _, hgs⟩ := hw
      have hl := hgs.len
      walk_at "gg"
      rename_i t10 H10' n10 e10 s10 t11 H11 n11 e11 s11 t12 Hk nk ek sk
      have s9k := s10.trans (s11.trans sk)
      have tdu : Tp Hk (.ref t12) (runM (Prog.mk fs11 p) 24 p).1.told := by
        rw [hres]
        show Tp Hk (.ref t12) (Wth.fn f gs).part.told
        rw [told_fn (Wth.fn_head f gs).1, (Wth.fn_head f gs).2, List.length_map, ← hl]
        exact .tup ek (.cons (.str _) (.cons (.str _) (.one (.int _))))
      have tPk := tP9.mono (Same.tk s9k)
      have tpk := tp9.mono (Same.tk s9k)
      have ewk := s9k _ _ e9w
      have tfk := tfs9.mono (Same.tk s9k)
      have hPk := hP9.same s9k
      clear s9k e9w tP9 tp9 hP9 tfs9
      refine ⟨v, .ref a6, Prog.mk fs11 p, p, 24, rfl, tPk, hfine, tpk, hsd, by omega, by decide, fun t2 wl2 y2 Hx ex rx hwl2 ew2 sx => ?_⟩
      walk_at "gg"
      rename_i az Hz nz ez sz
      refine g_neLk (n := 150) (.inr ⟨_, _, _, _, rfl, rfl, .of (sz _ _ ex), .of ez, .cons (Tp.like (rx.mono (Same.tk sz)) (tdu.mono (Same.tk (sx.trans sz))) (told_dp _)) (.cons (.inr (.inr (strs_likeN (n := 149) (by decide) (sz _ _ ew2) (sz _ _ (sx _ _ ewk))))) .nil)⟩) (Nat.le_refl _) ?_
      walk_at "gg"
      exact ⟨_, _, _, _, _, _, _, rfl, hPk.same (sx.trans sz), tfk.mono (Same.tk (sx.trans sz))⟩

/-! ### the row -/
def topS (i : Nat) : Stmt := PySem.Challenge.pw_lazywebs_k11_faults_in_their_order.main.body.getD i (.Pass ⟨0, 0, 0, 0⟩)
structure TX (w : World) (K : PySem.W.Frag) (mg : Str → Option Value) : Prop where
  d_is_small : ∃ fd, FunD K "is_small" "is_small" (defArgs (topS 3)) (defBody (topS 3)) (defScope (topS 3)) [] [] (He.ga K "is_small") fd
  f_is_small : mg "is_small" = some (.ref (He.ga K "is_small"))
  d_bodies : ∃ fd, FunD K "bodies" "bodies" (defArgs (topS 5)) (defBody (topS 5)) (defScope (topS 5)) [] [] (He.ga K "bodies") fd
  f_bodies : mg "bodies" = some (.ref (He.ga K "bodies"))
  d_number_of : ∃ fd, FunD K "number_of" "number_of" (defArgs (topS 6)) (defBody (topS 6)) (defScope (topS 6)) [] [] (He.ga K "number_of") fd
  f_number_of : mg "number_of" = some (.ref (He.ga K "number_of"))
  d_things_of : ∃ fd, FunD K "things_of" "things_of" (defArgs (topS 7)) (defBody (topS 7)) (defScope (topS 7)) [] [] (He.ga K "things_of") fd
  f_things_of : mg "things_of" = some (.ref (He.ga K "things_of"))
  d_wants : ∃ fd, FunD K "wants" "wants" (defArgs (topS 8)) (defBody (topS 8)) (defScope (topS 8)) [] [] (He.ga K "wants") fd
  f_wants : mg "wants" = some (.ref (He.ga K "wants"))
  d_body_of : ∃ fd, FunD K "body_of" "body_of" (defArgs (topS 9)) (defBody (topS 9)) (defScope (topS 9)) [] [] (He.ga K "body_of") fd
  f_body_of : mg "body_of" = some (.ref (He.ga K "body_of"))
  d_put_in : ∃ fd, FunD K "put_in" "put_in" (defArgs (topS 11)) (defBody (topS 11)) (defScope (topS 11)) [] [] (He.ga K "put_in") fd
  f_put_in : mg "put_in" = some (.ref (He.ga K "put_in"))
  d_spine : ∃ fd, FunD K "spine" "spine" (defArgs (topS 12)) (defBody (topS 12)) (defScope (topS 12)) [] [] (He.ga K "spine") fd
  f_spine : mg "spine" = some (.ref (He.ga K "spine"))
  d_is_worth : ∃ fd, FunD K "is_worth" "is_worth" (defArgs (topS 13)) (defBody (topS 13)) (defScope (topS 13)) [] [] (He.ga K "is_worth") fd
  f_is_worth : mg "is_worth" = some (.ref (He.ga K "is_worth"))
  d_strict_at : ∃ fd, FunD K "strict_at" "strict_at" (defArgs (topS 14)) (defBody (topS 14)) (defScope (topS 14)) [] [] (He.ga K "strict_at") fd
  f_strict_at : mg "strict_at" = some (.ref (He.ga K "strict_at"))
  d_reckoned : ∃ fd, FunD K "reckoned" "reckoned" (defArgs (topS 15)) (defBody (topS 15)) (defScope (topS 15)) [] [] (He.ga K "reckoned") fd
  f_reckoned : mg "reckoned" = some (.ref (He.ga K "reckoned"))
  d_of_numbers : ∃ fd, FunD K "of_numbers" "of_numbers" (defArgs (topS 16)) (defBody (topS 16)) (defScope (topS 16)) [] [] (He.ga K "of_numbers") fd
  f_of_numbers : mg "of_numbers" = some (.ref (He.ga K "of_numbers"))
  d_called : ∃ fd, FunD K "called" "called" (defArgs (topS 17)) (defBody (topS 17)) (defScope (topS 17)) [] [] (He.ga K "called") fd
  f_called : mg "called" = some (.ref (He.ga K "called"))
  d_own_step : ∃ fd, FunD K "own_step" "own_step" (defArgs (topS 18)) (defBody (topS 18)) (defScope (topS 18)) [] [] (He.ga K "own_step") fd
  f_own_step : mg "own_step" = some (.ref (He.ga K "own_step"))
  d_shown : ∃ fd, FunD K "shown" "shown" (defArgs (topS 20)) (defBody (topS 20)) (defScope (topS 20)) [] [] (He.ga K "shown") fd
  f_shown : mg "shown" = some (.ref (He.ga K "shown"))
  d_come_to : ∃ fd, FunD K "come_to" "come_to" (defArgs (topS 21)) (defBody (topS 21)) (defScope (topS 21)) [] [] (He.ga K "come_to") fd
  f_come_to : mg "come_to" = some (.ref (He.ga K "come_to"))
  d_led : ∃ fd, FunD K "led" "led" (defArgs (topS 22)) (defBody (topS 22)) (defScope (topS 22)) [] [] (He.ga K "led") fd
  f_led : mg "led" = some (.ref (He.ga K "led"))
  d_law_pen : ∃ fd, FunD K "_law_pen" "_law_pen" (defArgs (topS 24)) (defBody (topS 24)) (defScope (topS 24)) [] [] (He.ga K "_law_pen") fd
  f_law_pen : mg "_law_pen" = some (.ref (He.ga K "_law_pen"))
  d_law_draw : ∃ fd, FunD K "_law_draw" "_law_draw" (defArgs (topS 25)) (defBody (topS 25)) (defScope (topS 25)) [] [] (He.ga K "_law_draw") fd
  f_law_draw : mg "_law_draw" = some (.ref (He.ga K "_law_draw"))
  d_law_called : ∃ fd, FunD K "_law_called" "_law_called" (defArgs (topS 26)) (defBody (topS 26)) (defScope (topS 26)) [] [] (He.ga K "_law_called") fd
  f_law_called : mg "_law_called" = some (.ref (He.ga K "_law_called"))
  d_law_wants : ∃ fd, FunD K "_law_wants" "_law_wants" (defArgs (topS 27)) (defBody (topS 27)) (defScope (topS 27)) [] [] (He.ga K "_law_wants") fd
  f_law_wants : mg "_law_wants" = some (.ref (He.ga K "_law_wants"))
  d_law_into : ∃ fd, FunD K "_law_into" "_law_into" (defArgs (topS 28)) (defBody (topS 28)) (defScope (topS 28)) [] [] (He.ga K "_law_into") fd
  f_law_into : mg "_law_into" = some (.ref (He.ga K "_law_into"))
  d_law_second : ∃ fd, FunD K "_law_second" "_law_second" (defArgs (topS 29)) (defBody (topS 29)) (defScope (topS 29)) [] [] (He.ga K "_law_second") fd
  f_law_second : mg "_law_second" = some (.ref (He.ga K "_law_second"))
  d_law_out : ∃ fd, FunD K "_law_out" "_law_out" (defArgs (topS 30)) (defBody (topS 30)) (defScope (topS 30)) [] [] (He.ga K "_law_out") fd
  f_law_out : mg "_law_out" = some (.ref (He.ga K "_law_out"))
  d_law_come : ∃ fd, FunD K "_law_come" "_law_come" (defArgs (topS 31)) (defBody (topS 31)) (defScope (topS 31)) [] [] (He.ga K "_law_come") fd
  f_law_come : mg "_law_come" = some (.ref (He.ga K "_law_come"))
  d_law_end : ∃ fd, FunD K "_law_end" "_law_end" (defArgs (topS 32)) (defBody (topS 32)) (defScope (topS 32)) [] [] (He.ga K "_law_end") fd
  f_law_end : mg "_law_end" = some (.ref (He.ga K "_law_end"))
  d_law_mixed : ∃ fd, FunD K "_law_mixed" "_law_mixed" (defArgs (topS 33)) (defBody (topS 33)) (defScope (topS 33)) [] [] (He.ga K "_law_mixed") fd
  f_law_mixed : mg "_law_mixed" = some (.ref (He.ga K "_law_mixed"))
  d_law : ∃ fd, FunD K "law" "law" (defArgs (topS 34)) (defBody (topS 34)) (defScope (topS 34)) [] [] (He.ga K "law") fd
  f_law : mg "law" = some (.ref (He.ga K "law"))
  n_abs : mg "abs" = none
  n_len : mg "len" = none
  n_tuple : mg "tuple" = none
  n_int : mg "int" = none
  n_dict : mg "dict" = none
  n_zip : mg "zip" = none
  n_list : mg "list" = none
  n_max : mg "max" = none
  n_min : mg "min" = none
  n_range : mg "range" = none
  g_PARTS : mg "PARTS" = some (.ref (He.ga K "PARTS"))
  k_PARTS : KTab K w (He.ga K "PARTS") [("give", V.int 2), ("plus", V.int 2), ("less", V.int 2), ("times", V.int 2), ("below", V.int 2), ("when", V.int 3), ("pair", V.int 2), ("left", V.int 1), ("right", V.int 1)]
  g_OPERATIONS : mg "OPERATIONS" = some (.ref (He.ga K "OPERATIONS"))
  t_OPERATIONS : ∀ H : Hp, SqT K H (He.ga K "OPERATIONS") [V.str "plus", V.str "less", V.str "times", V.str "below"]
abbrev st_is_small : Stmt := topS 3
theorem sc_is_small : FnScope ["number"] ["number"] (defScope st_is_small) := ⟨rfl, rfl, rfl, by decide +kernel, rfl, by decide +kernel, by decide +kernel⟩
theorem mk_is_small {P : Program} {w : World} {K : PySem.W.Frag} {mg : Str → Option Value} {base : Heap} (T : TX w K mg) {j : Nat} {sp : Sp}
    (pure_ : PureOk 1 sp (t_is_small K w ) 1) : Cal P w K mg base (j + 1) "is_small" sp := by
  obtain ⟨fd, F⟩ := T.d_is_small
  refine cal_mk F T.f_is_small sc_is_small (F.bindsN fun _ _ _ _ _ _ us hl => match us, hl with | [_], _ => rfl) pure_.len fun cdv A outer s H vs Q E hr h => ?_
  refine ⟨t_is_small K w , PSs.nox ?_, pure_.run vs H Q E h⟩
  exact (pss_one (ps_ret (pe_cmpR op_lt (pe_callB call_abs (by rfl) T.n_abs (by decide +kernel) (pa_cons (pv 0) pa_nil)) (pe_op op_pow pe_int pe_int) (nomark _))))
abbrev st_bodies : Stmt := topS 5
theorem sc_bodies : FnScope ["program", "name", "names", "body"] ["program"] (defScope st_bodies) := ⟨rfl, rfl, rfl, by decide +kernel, rfl, by decide +kernel, by decide +kernel⟩
theorem mk_bodies {P : Program} {w : World} {K : PySem.W.Frag} {mg : Str → Option Value} {base : Heap} (T : TX w K mg) {j : Nat} {sp : Sp}
    (pure_ : PureOk 1 sp (t_bodies K w ) 4) : Cal P w K mg base (j + 1) "bodies" sp := by
  obtain ⟨fd, F⟩ := T.d_bodies
  refine cal_mk F T.f_bodies sc_bodies (F.bindsN fun _ _ _ _ _ _ us hl => match us, hl with | [_], _ => rfl) pure_.len fun cdv A outer s H vs Q E hr h => ?_
  refine ⟨t_bodies K w , PSs.nox ?_, pure_.run vs H Q E h⟩
  exact (pss_one (ps_ret (pe_op op_addG (pe_lc (own := [("name", 1), ("names", 2), ("body", 3)]) (g := (gTup K 3 (gCons (gName 1) (gCons (gName 2) (gCons (gName 3) gNil))))) (tt := tYes) rfl sc_bodies.nd (pi_seq (pe_ixG (hu_of hr) (pv 0) pe_int (fun _ _ => rfl))) (blkOk_by (by kernel_rfl)) (fun _ _ _ _ _ => (pg_tup rfl (pgs_cons (pg_name (i := 1) sc_bodies.nd rfl (by first | exact Or.inl rfl | exact Or.inr rfl)) (pgs_cons (pg_name (i := 2) sc_bodies.nd rfl (by first | exact Or.inl rfl | exact Or.inr rfl)) (pgs_cons (pg_name (i := 3) sc_bodies.nd rfl (by first | exact Or.inl rfl | exact Or.inr rfl)) pgs_nil))))) (fun _ _ _ _ _ => pts_nil) (fun _ _ _ _ _ => (pv 3))) (pe_lstN (pa_cons (pe_ixG (hu_of hr) (pv 0) pe_int (fun _ _ => rfl)) pa_nil)))))
abbrev st_number_of : Stmt := topS 6
theorem sc_number_of : FnScope ["program", "f", "names", "name", "things", "body"] ["program", "f"] (defScope st_number_of) := ⟨rfl, rfl, rfl, by decide +kernel, rfl, by decide +kernel, by decide +kernel⟩
theorem mk_number_of {P : Program} {w : World} {K : PySem.W.Frag} {mg : Str → Option Value} {base : Heap} (T : TX w K mg) {j : Nat} {sp : Sp}
    (pure_ : PureOk 2 sp (t_number_of K w ) 6) : Cal P w K mg base (j + 1) "number_of" sp := by
  obtain ⟨fd, F⟩ := T.d_number_of
  refine cal_mk F T.f_number_of sc_number_of (F.bindsN fun _ _ _ _ _ _ us hl => match us, hl with | [_, _], _ => rfl) pure_.len fun cdv A outer s H vs Q E hr h => ?_
  refine ⟨t_number_of K w , PSs.nox ?_, pure_.run vs H Q E h⟩
  exact (pss_cons (ps_setLc (i := 2) (own := [("name", 3), ("things", 4), ("body", 5)]) (g := (gTup K 3 (gCons (gName 3) (gCons (gName 4) (gCons (gName 5) gNil))))) (tt := tYes) rfl sc_number_of.nd rfl rfl (sw_true rfl rfl rfl (by decide +kernel)) (pi_seq (pe_ixG (hu_of hr) (pv 0) pe_int (fun _ _ => rfl))) (blkOk_by (by kernel_rfl)) (fun _ _ _ _ _ => (pg_tup rfl (pgs_cons (pg_name (i := 3) sc_number_of.nd rfl (by first | exact Or.inl rfl | exact Or.inr rfl)) (pgs_cons (pg_name (i := 4) sc_number_of.nd rfl (by first | exact Or.inl rfl | exact Or.inr rfl)) (pgs_cons (pg_name (i := 5) sc_number_of.nd rfl (by first | exact Or.inl rfl | exact Or.inr rfl)) pgs_nil))))) (fun _ _ _ _ _ => pts_nil) (fun _ _ _ _ _ => (pv 3)))
  (pss_one (ps_ret (pe_ifExp (pt_cmpR (op_inG (hu_of hr)) (pv 1) (pv 2) (by rfl)) (pe_bm PySem.F.plainAttrs_list PySem.F.slot_list_index PySem.F.type_list_index mt_index (pv 2) (pa_cons (pv 1) pa_nil)) (pe_callB call_lenG (by rfl) T.n_len (by decide +kernel) (pa_cons (pv 2) pa_nil))))))
abbrev st_things_of : Stmt := topS 7
theorem sc_things_of : FnScope ["program", "f", "number"] ["program", "f"] (defScope st_things_of) := ⟨rfl, rfl, rfl, by decide +kernel, rfl, by decide +kernel, by decide +kernel⟩
theorem mk_things_of {P : Program} {w : World} {K : PySem.W.Frag} {mg : Str → Option Value} {base : Heap} (T : TX w K mg) {j : Nat} {sp : Sp} {s_number_of : Sp} (c_number_of : Cal P w K mg base j "number_of" s_number_of)
    (pure_ : PureOk 2 sp (t_things_of K w s_number_of) 3) : Cal P w K mg base (j + 1) "things_of" sp := by
  obtain ⟨fd, F⟩ := T.d_things_of
  refine cal_mk F T.f_things_of sc_things_of (F.bindsN fun _ _ _ _ _ _ us hl => match us, hl with | [_, _], _ => rfl) pure_.len fun cdv A outer s H vs Q E hr h => ?_
  refine ⟨t_things_of K w s_number_of, PSs.nox ?_, pure_.run vs H Q E h⟩
  exact (pss_cons (ps_set (i := 2) sc_things_of.nd rfl (Or.inl rfl) (pe_cal c_number_of hr rfl (pa_cons (pv 0) (pa_cons (pv 1) pa_nil))))
  (pss_one (ps_ret (pe_ifExp (pt_cmpR (op_eqG (hu2_of hr)) (pv 2) (pe_callB call_lenG (by rfl) T.n_len (by decide +kernel) (pa_cons (pe_ixG (hu_of hr) (pv 0) pe_int (fun _ _ => rfl)) pa_nil)) (nomark _)) (pe_tupN pa_nil) (pe_ixG (hu_of hr) (pe_ixG (hu_of hr) (pe_ixG (hu_of hr) (pv 0) pe_int (fun _ _ => rfl)) (pv 2) (fun _ _ => rfl)) pe_int (fun _ _ => rfl))))))
abbrev st_wants : Stmt := topS 8
theorem sc_wants : FnScope ["program", "f"] ["program", "f"] (defScope st_wants) := ⟨rfl, rfl, rfl, by decide +kernel, rfl, by decide +kernel, by decide +kernel⟩
theorem mk_wants {P : Program} {w : World} {K : PySem.W.Frag} {mg : Str → Option Value} {base : Heap} (T : TX w K mg) {j : Nat} {sp : Sp} {s_things_of : Sp} (c_things_of : Cal P w K mg base j "things_of" s_things_of)
    (pure_ : PureOk 2 sp (t_wants K w s_things_of) 2) : Cal P w K mg base (j + 1) "wants" sp := by
  obtain ⟨fd, F⟩ := T.d_wants
  refine cal_mk F T.f_wants sc_wants (F.bindsN fun _ _ _ _ _ _ us hl => match us, hl with | [_, _], _ => rfl) pure_.len fun cdv A outer s H vs Q E hr h => ?_
  refine ⟨t_wants K w s_things_of, PSs.nox ?_, pure_.run vs H Q E h⟩
  exact (pss_one (ps_ret (pe_callB call_lenG (by rfl) T.n_len (by decide +kernel) (pa_cons (pe_cal c_things_of hr rfl (pa_cons (pv 0) (pa_cons (pv 1) pa_nil))) pa_nil))))
abbrev st_body_of : Stmt := topS 9
theorem sc_body_of : FnScope ["program", "f"] ["program", "f"] (defScope st_body_of) := ⟨rfl, rfl, rfl, by decide +kernel, rfl, by decide +kernel, by decide +kernel⟩
theorem mk_body_of {P : Program} {w : World} {K : PySem.W.Frag} {mg : Str → Option Value} {base : Heap} (T : TX w K mg) {j : Nat} {sp : Sp} {s_bodies s_number_of : Sp} (c_bodies : Cal P w K mg base j "bodies" s_bodies) (c_number_of : Cal P w K mg base j "number_of" s_number_of)
    (pure_ : PureOk 2 sp (t_body_of K w s_bodies s_number_of) 2) : Cal P w K mg base (j + 1) "body_of" sp := by
  obtain ⟨fd, F⟩ := T.d_body_of
  refine cal_mk F T.f_body_of sc_body_of (F.bindsN fun _ _ _ _ _ _ us hl => match us, hl with | [_, _], _ => rfl) pure_.len fun cdv A outer s H vs Q E hr h => ?_
  refine ⟨t_body_of K w s_bodies s_number_of, PSs.nox ?_, pure_.run vs H Q E h⟩
  exact (pss_one (ps_ret (pe_ixG (hu_of hr) (pe_cal c_bodies hr rfl (pa_cons (pv 0) pa_nil)) (pe_cal c_number_of hr rfl (pa_cons (pv 0) (pa_cons (pv 1) pa_nil))) (fun _ _ => rfl))))
abbrev st_put_in : Stmt := topS 11
theorem sc_put_in : FnScope ["part", "things", "rows", "name", "one"] ["part", "things"] (defScope st_put_in) := ⟨rfl, rfl, rfl, by decide +kernel, rfl, by decide +kernel, by decide +kernel⟩
theorem mk_put_in {P : Program} {w : World} {K : PySem.W.Frag} {mg : Str → Option Value} {base : Heap} (T : TX w K mg) {j : Nat} {sp : Sp} {s_put_in : Sp} (c_put_in : Cal P w K mg base j "put_in" s_put_in)
    (pure_ : PureOk 2 sp (t_put_in K w s_put_in) 5) : Cal P w K mg base (j + 1) "put_in" sp := by
  obtain ⟨fd, F⟩ := T.d_put_in
  refine cal_mk F T.f_put_in sc_put_in (F.bindsN fun _ _ _ _ _ _ us hl => match us, hl with | [_, _], _ => rfl) pure_.len fun cdv A outer s H vs Q E hr h => ?_
  refine ⟨t_put_in K w s_put_in, PSs.nox ?_, pure_.run vs H Q E h⟩
  exact (pss_cons (ps_if (pt_cmpR (op_eqG (hu2_of hr)) (pe_ixG (hu_of hr) (pv 0) pe_int (fun _ _ => rfl)) pe_str (nomark _)) (pss_one (ps_ret (pe_ifExp (pt_cmpR (op_inG (hu_of hr)) (pe_ixG (hu_of hr) (pv 0) pe_int (fun _ _ => rfl)) (pv 1) (by rfl)) (pe_tupN (pa_cons pe_str (pa_cons (pe_ixG (hu_of hr) (pv 1) (pe_ixG (hu_of hr) (pv 0) pe_int (fun _ _ => rfl)) (fun _ _ => rfl)) pa_nil))) (pv 0)))) pss_nil)
  (pss_cons (ps_if (pt_cmpR (op_eqG (hu2_of hr)) (pe_ixG (hu_of hr) (pv 0) pe_int (fun _ _ => rfl)) pe_str (nomark _)) (pss_cons (ps_set (i := 2) sc_put_in.nd rfl (Or.inl rfl) (pe_callTy call_tupleG (by rfl) T.n_tuple (by decide +kernel) (pa_cons (pe_lc (own := [("name", 3), ("one", 4)]) (g := (gTup K 2 (gCons (gName 3) (gCons (gName 4) gNil)))) (tt := tYes) rfl sc_put_in.nd (pi_seq (pe_ixG (hu_of hr) (pv 0) pe_int (fun _ _ => rfl))) (blkOk_by (by kernel_rfl)) (fun _ _ _ _ _ => (pg_tup rfl (pgs_cons (pg_name (i := 3) sc_put_in.nd rfl (by first | exact Or.inl rfl | exact Or.inr rfl)) (pgs_cons (pg_name (i := 4) sc_put_in.nd rfl (by first | exact Or.inl rfl | exact Or.inr rfl)) pgs_nil)))) (fun _ _ _ _ _ => pts_nil) (fun _ _ _ _ _ => (pe_tupN (pa_cons (pv 3) (pa_cons (pe_cal c_put_in hr rfl (pa_cons (pv 4) (pa_cons (pv 1) pa_nil))) pa_nil))))) pa_nil)))
  (pss_one (ps_ret (pe_tupN (pa_cons pe_str (pa_cons (pv 2) (pa_cons (pe_cal c_put_in hr rfl (pa_cons (pe_ixG (hu_of hr) (pv 0) pe_int (fun _ _ => rfl)) (pa_cons (pv 1) pa_nil))) pa_nil))))))) pss_nil)
  (pss_cons (ps_if (pt_cmpR (op_inG (hu_of hr)) (pe_ixG (hu_of hr) (pv 0) pe_int (fun _ _ => rfl)) (pe_glob (v := .ref (He.ga K "PARTS")) rfl T.g_PARTS rfl) (by rfl)) (pss_one (ps_ret (pe_op op_addG (pe_slice sl_any (pv 0) po_none (po_some pe_int)) (pe_callTy call_tupleG (by rfl) T.n_tuple (by decide +kernel) (pa_cons (pe_lc (own := [("one", 4)]) (g := (gName 4)) (tt := tYes) rfl sc_put_in.nd (pi_seq (pe_slice sl_any (pv 0) (po_some pe_int) po_none)) (blkOk_by (by kernel_rfl)) (fun _ _ _ _ _ => (pg_name (i := 4) sc_put_in.nd rfl (by first | exact Or.inl rfl | exact Or.inr rfl))) (fun _ _ _ _ _ => pts_nil) (fun _ _ _ _ _ => (pe_cal c_put_in hr rfl (pa_cons (pv 4) (pa_cons (pv 1) pa_nil))))) pa_nil))))) pss_nil)
  (pss_one (ps_ret (pv 0))))))
abbrev st_spine : Stmt := topS 12
theorem sc_spine : FnScope ["part", "things"] ["part"] (defScope st_spine) := ⟨rfl, rfl, rfl, by decide +kernel, rfl, by decide +kernel, by decide +kernel⟩
theorem mk_spine {P : Program} {w : World} {K : PySem.W.Frag} {mg : Str → Option Value} {base : Heap} (T : TX w K mg) {j : Nat} {sp : Sp}
    (pure_ : PureOk 1 sp (t_spine K w ) 2) : Cal P w K mg base (j + 1) "spine" sp := by
  obtain ⟨fd, F⟩ := T.d_spine
  refine cal_mk F T.f_spine sc_spine (F.bindsN fun _ _ _ _ _ _ us hl => match us, hl with | [_], _ => rfl) pure_.len fun cdv A outer s H vs Q E hr h => ?_
  refine ⟨t_spine K w , PSs.nox ?_, pure_.run vs H Q E h⟩
  exact (pss_cons (ps_set (i := 1) sc_spine.nd rfl (Or.inl rfl) (pe_lstN pa_nil))
  (pss_cons (ps_while PassesOwn.never (pt_cmpR (op_eqG (hu2_of hr)) (pe_ixG (hu_of hr) (pv 0) pe_int (fun _ _ => rfl)) pe_str (nomark _)) (pss_cons (ps_expr (pe_bm PySem.F.plainAttrs_list PySem.F.slot_list_append PySem.F.type_list_append mt_appendG (pv 1) (pa_cons (pe_ixG (hu_of hr) (pv 0) pe_int (fun _ _ => rfl)) pa_nil)))
  (pss_one (ps_set (i := 0) sc_spine.nd rfl (Or.inl rfl) (pe_ixG (hu_of hr) (pv 0) pe_int (fun _ _ => rfl))))))
  (pss_one (ps_ret (pe_tupN (pa_cons (pv 0) (pa_cons (pe_revG (pv 1)) pa_nil)))))))
abbrev st_is_worth : Stmt := topS 13
theorem sc_is_worth : FnScope ["program", "part", "head", "things"] ["program", "part"] (defScope st_is_worth) := ⟨rfl, rfl, rfl, by decide +kernel, rfl, by decide +kernel, by decide +kernel⟩
theorem mk_is_worth {P : Program} {w : World} {K : PySem.W.Frag} {mg : Str → Option Value} {base : Heap} (T : TX w K mg) {j : Nat} {sp : Sp} {s_spine s_wants : Sp} (c_spine : Cal P w K mg base j "spine" s_spine) (c_wants : Cal P w K mg base j "wants" s_wants)
    (pure_ : PureOk 2 sp (t_is_worth K w s_spine s_wants) 4) : Cal P w K mg base (j + 1) "is_worth" sp := by
  obtain ⟨fd, F⟩ := T.d_is_worth
  refine cal_mk F T.f_is_worth sc_is_worth (F.bindsN fun _ _ _ _ _ _ us hl => match us, hl with | [_, _], _ => rfl) pure_.len fun cdv A outer s H vs Q E hr h => ?_
  refine ⟨t_is_worth K w s_spine s_wants, PSs.nox ?_, pure_.run vs H Q E h⟩
  exact (pss_cons (ps_if (pt_cmpR (op_inG (hu_of hr)) (pe_ixG (hu_of hr) (pv 1) pe_int (fun _ _ => rfl)) (pe_tupN (pa_cons pe_str (pa_cons pe_str pa_nil))) (by rfl)) (pss_one (ps_ret pe_bl)) pss_nil)
  (pss_cons (ps_asg (pe_cal c_spine hr rfl (pa_cons (pv 1) pa_nil)) (pg_tup rfl (pgs_cons (pg_name (i := 2) sc_is_worth.nd rfl (by first | exact Or.inl rfl | exact Or.inr rfl)) (pgs_cons (pg_name (i := 3) sc_is_worth.nd rfl (by first | exact Or.inl rfl | exact Or.inr rfl)) pgs_nil))))
  (pss_one (ps_ret (pe_andT (pe_cmpR (op_eqG (hu2_of hr)) (pe_ixG (hu_of hr) (pv 2) pe_int (fun _ _ => rfl)) pe_str (nomark _)) (pe_one (pe_cmpR op_lt (pe_callB call_lenG (by rfl) T.n_len (by decide +kernel) (pa_cons (pv 3) pa_nil)) (pe_cal c_wants hr rfl (pa_cons (pv 0) (pa_cons (pe_ixG (hu_of hr) (pv 2) pe_int (fun _ _ => rfl)) pa_nil))) (nomark _))))))))
abbrev st_strict_at : Stmt := topS 14
theorem sc_strict_at : FnScope ["program", "part"] ["program", "part"] (defScope st_strict_at) := ⟨rfl, rfl, rfl, by decide +kernel, rfl, by decide +kernel, by decide +kernel⟩
theorem mk_strict_at {P : Program} {w : World} {K : PySem.W.Frag} {mg : Str → Option Value} {base : Heap} (T : TX w K mg) {j : Nat} {sp : Sp} {s_is_worth : Sp} (c_is_worth : Cal P w K mg base j "is_worth" s_is_worth)
    (pure_ : PureOk 2 sp (t_strict_at K w s_is_worth) 2) : Cal P w K mg base (j + 1) "strict_at" sp := by
  obtain ⟨fd, F⟩ := T.d_strict_at
  refine cal_mk F T.f_strict_at sc_strict_at (F.bindsN fun _ _ _ _ _ _ us hl => match us, hl with | [_, _], _ => rfl) pure_.len fun cdv A outer s H vs Q E hr h => ?_
  refine ⟨t_strict_at K w s_is_worth, PSs.nox ?_, pure_.run vs H Q E h⟩
  exact (pss_cons (ps_if (PW.pt (pw_and (pt_cmpR (op_inG (hu_of hr)) (pe_ixG (hu_of hr) (pv 1) pe_int (fun _ _ => rfl)) (pe_glob (v := .ref (He.ga K "OPERATIONS")) rfl T.g_OPERATIONS rfl) (by rfl)) (pw_and (pt_tru (pe_cal c_is_worth hr rfl (pa_cons (pv 0) (pa_cons (pe_ixG (hu_of hr) (pv 1) pe_int (fun _ _ => rfl)) pa_nil))) (by intro _; rfl)) (pw_and1 (pt_cmpR (op_eqG (hu2_of hr)) (pe_ixG (hu_of hr) (pe_ixG (hu_of hr) (pv 1) pe_int (fun _ _ => rfl)) pe_int (fun _ _ => rfl)) pe_str (nomark _)))))) (pss_one (ps_ret (pe_ifExp (pt_tru (pe_cal c_is_worth hr rfl (pa_cons (pv 0) (pa_cons (pe_ixG (hu_of hr) (pv 1) pe_int (fun _ _ => rfl)) pa_nil))) (by intro _; rfl)) pe_int pe_int))) pss_nil)
  (pss_cons (ps_if (PW.pt (pw_or (pt_cmpR (op_inG (hu_of hr)) (pe_ixG (hu_of hr) (pv 1) pe_int (fun _ _ => rfl)) (pe_tupN (pa_cons pe_str (pa_cons pe_str (pa_cons pe_str (pa_cons pe_str pa_nil))))) (by rfl)) (pw_or1 (pt_cmpR (op_inG (hu_of hr)) (pe_ixG (hu_of hr) (pv 1) pe_int (fun _ _ => rfl)) (pe_glob (v := .ref (He.ga K "OPERATIONS")) rfl T.g_OPERATIONS rfl) (by rfl))))) (pss_one (ps_ret (pe_ifExp (pt_tru (pe_cal c_is_worth hr rfl (pa_cons (pv 0) (pa_cons (pe_ixG (hu_of hr) (pv 1) pe_int (fun _ _ => rfl)) pa_nil))) (by intro _; rfl)) pe_int pe_int))) pss_nil)
  (pss_one (ps_ret pe_int))))
abbrev st_reckoned : Stmt := topS 15
theorem sc_reckoned : FnScope ["kind", "one", "other"] ["kind", "one", "other"] (defScope st_reckoned) := ⟨rfl, rfl, rfl, by decide +kernel, rfl, by decide +kernel, by decide +kernel⟩
theorem mk_reckoned {P : Program} {w : World} {K : PySem.W.Frag} {mg : Str → Option Value} {base : Heap} (T : TX w K mg) {j : Nat} {sp : Sp}
    (pure_ : PureOk 3 sp (t_reckoned K w ) 3) : Cal P w K mg base (j + 1) "reckoned" sp := by
  obtain ⟨fd, F⟩ := T.d_reckoned
  refine cal_mk F T.f_reckoned sc_reckoned (F.bindsN fun _ _ _ _ _ _ us hl => match us, hl with | [_, _, _], _ => rfl) pure_.len fun cdv A outer s H vs Q E hr h => ?_
  refine ⟨t_reckoned K w , PSs.nox ?_, pure_.run vs H Q E h⟩
  exact (pss_cons (ps_if (pt_cmpR (op_eqG (hu2_of hr)) (pv 0) pe_str (nomark _)) (pss_one (ps_ret (pe_op op_addG (pv 1) (pv 2)))) pss_nil)
  (pss_cons (ps_if (pt_cmpR (op_eqG (hu2_of hr)) (pv 0) pe_str (nomark _)) (pss_one (ps_ret (pe_op op_sub (pv 1) (pv 2)))) pss_nil)
  (pss_cons (ps_if (pt_cmpR (op_eqG (hu2_of hr)) (pv 0) pe_str (nomark _)) (pss_one (ps_ret (pe_op op_mulG (pv 1) (pv 2)))) pss_nil)
  (pss_one (ps_ret (pe_callTy call_int1 (by rfl) T.n_int (by decide +kernel) (pa_cons (pe_cmpR op_lt (pv 1) (pv 2) (nomark _)) pa_nil)))))))
abbrev st_of_numbers : Stmt := topS 16
theorem sc_of_numbers : FnScope ["part", "number"] ["part"] (defScope st_of_numbers) := ⟨rfl, rfl, rfl, by decide +kernel, rfl, by decide +kernel, by decide +kernel⟩
theorem mk_of_numbers {P : Program} {w : World} {K : PySem.W.Frag} {mg : Str → Option Value} {base : Heap} (T : TX w K mg) {j : Nat} {sp : Sp} {s_reckoned s_is_small : Sp} (c_reckoned : Cal P w K mg base j "reckoned" s_reckoned) (c_is_small : Cal P w K mg base j "is_small" s_is_small)
    (pure_ : PureOk 1 sp (t_of_numbers K w s_reckoned s_is_small) 2) : Cal P w K mg base (j + 1) "of_numbers" sp := by
  obtain ⟨fd, F⟩ := T.d_of_numbers
  refine cal_mk F T.f_of_numbers sc_of_numbers (F.bindsN fun _ _ _ _ _ _ us hl => match us, hl with | [_], _ => rfl) pure_.len fun cdv A outer s H vs Q E hr h => ?_
  refine ⟨t_of_numbers K w s_reckoned s_is_small, PSs.nox ?_, pure_.run vs H Q E h⟩
  exact (pss_cons (ps_if (PW.pt (pw_or (pt_cmpR (op_neG (hu2_of hr)) (pe_ixG (hu_of hr) (pe_ixG (hu_of hr) (pv 0) pe_int (fun _ _ => rfl)) pe_int (fun _ _ => rfl)) pe_str (nomark _)) (pw_or1 (pt_cmpR (op_neG (hu2_of hr)) (pe_ixG (hu_of hr) (pe_ixG (hu_of hr) (pv 0) pe_int (fun _ _ => rfl)) pe_int (fun _ _ => rfl)) pe_str (nomark _))))) (pss_one (ps_ret (pe_tupN (pa_cons pe_str (pa_cons pe_str pa_nil))))) pss_nil)
  (pss_cons (ps_set (i := 1) sc_of_numbers.nd rfl (Or.inl rfl) (pe_cal c_reckoned hr rfl (pa_cons (pe_ixG (hu_of hr) (pv 0) pe_int (fun _ _ => rfl)) (pa_cons (pe_ixG (hu_of hr) (pe_ixG (hu_of hr) (pv 0) pe_int (fun _ _ => rfl)) pe_int (fun _ _ => rfl)) (pa_cons (pe_ixG (hu_of hr) (pe_ixG (hu_of hr) (pv 0) pe_int (fun _ _ => rfl)) pe_int (fun _ _ => rfl)) pa_nil)))))
  (pss_cons (ps_if (pt_not (pt_tru (pe_cal c_is_small hr rfl (pa_cons (pv 1) pa_nil)) (by intro _; rfl))) (pss_one (ps_ret (pe_tupN (pa_cons pe_str (pa_cons pe_str pa_nil))))) pss_nil)
  (pss_one (ps_ret (pe_tupN (pa_cons pe_str (pa_cons (pe_tupN (pa_cons pe_str (pa_cons (pv 1) pa_nil))) pa_nil))))))))
abbrev st_called : Stmt := topS 17
theorem sc_called : FnScope ["program", "part", "head", "things"] ["program", "part"] (defScope st_called) := ⟨rfl, rfl, rfl, by decide +kernel, rfl, by decide +kernel, by decide +kernel⟩
theorem mk_called {P : Program} {w : World} {K : PySem.W.Frag} {mg : Str → Option Value} {base : Heap} (T : TX w K mg) {j : Nat} {sp : Sp} {s_spine s_put_in s_things_of s_body_of : Sp} (c_spine : Cal P w K mg base j "spine" s_spine) (c_put_in : Cal P w K mg base j "put_in" s_put_in) (c_things_of : Cal P w K mg base j "things_of" s_things_of) (c_body_of : Cal P w K mg base j "body_of" s_body_of)
    (pure_ : PureOk 2 sp (t_called K w s_spine s_put_in s_things_of s_body_of) 4) : Cal P w K mg base (j + 1) "called" sp := by
  obtain ⟨fd, F⟩ := T.d_called
  refine cal_mk F T.f_called sc_called (F.bindsN fun _ _ _ _ _ _ us hl => match us, hl with | [_, _], _ => rfl) pure_.len fun cdv A outer s H vs Q E hr h => ?_
  refine ⟨t_called K w s_spine s_put_in s_things_of s_body_of, PSs.nox ?_, pure_.run vs H Q E h⟩
  exact (pss_cons (ps_asg (pe_cal c_spine hr rfl (pa_cons (pv 1) pa_nil)) (pg_tup rfl (pgs_cons (pg_name (i := 2) sc_called.nd rfl (by first | exact Or.inl rfl | exact Or.inr rfl)) (pgs_cons (pg_name (i := 3) sc_called.nd rfl (by first | exact Or.inl rfl | exact Or.inr rfl)) pgs_nil))))
  (pss_cons (ps_if (pt_cmpR (op_neG (hu2_of hr)) (pe_ixG (hu_of hr) (pv 2) pe_int (fun _ _ => rfl)) pe_str (nomark _)) (pss_one (ps_ret (pe_tupN (pa_cons pe_str (pa_cons pe_str pa_nil))))) pss_nil)
  (pss_one (ps_ret (pe_tupN (pa_cons pe_str (pa_cons (pe_cal c_put_in hr rfl (pa_cons (pe_cal c_body_of hr rfl (pa_cons (pv 0) (pa_cons (pe_ixG (hu_of hr) (pv 2) pe_int (fun _ _ => rfl)) pa_nil))) (pa_cons (pe_dictZ (by rfl) T.n_dict (by rfl) T.n_zip (pa_cons (pe_cal c_things_of hr rfl (pa_cons (pv 0) (pa_cons (pe_ixG (hu_of hr) (pv 2) pe_int (fun _ _ => rfl)) pa_nil))) (pa_cons (pv 3) pa_nil))) pa_nil))) pa_nil)))))))
abbrev st_own_step : Stmt := topS 18
theorem sc_own_step : FnScope ["program", "part", "name", "one"] ["program", "part"] (defScope st_own_step) := ⟨rfl, rfl, rfl, by decide +kernel, rfl, by decide +kernel, by decide +kernel⟩
theorem mk_own_step {P : Program} {w : World} {K : PySem.W.Frag} {mg : Str → Option Value} {base : Heap} (T : TX w K mg) {j : Nat} {sp : Sp} {s_of_numbers s_called s_put_in : Sp} (c_of_numbers : Cal P w K mg base j "of_numbers" s_of_numbers) (c_called : Cal P w K mg base j "called" s_called) (c_put_in : Cal P w K mg base j "put_in" s_put_in)
    (pure_ : PureOk 2 sp (t_own_step K w s_of_numbers s_called s_put_in) 4) : Cal P w K mg base (j + 1) "own_step" sp := by
  obtain ⟨fd, F⟩ := T.d_own_step
  refine cal_mk F T.f_own_step sc_own_step (F.bindsN fun _ _ _ _ _ _ us hl => match us, hl with | [_, _], _ => rfl) pure_.len fun cdv A outer s H vs Q E hr h => ?_
  refine ⟨t_own_step K w s_of_numbers s_called s_put_in, PSs.nox ?_, pure_.run vs H Q E h⟩
  exact (pss_cons (ps_if (pt_cmpR (op_inG (hu_of hr)) (pe_ixG (hu_of hr) (pv 1) pe_int (fun _ _ => rfl)) (pe_glob (v := .ref (He.ga K "OPERATIONS")) rfl T.g_OPERATIONS rfl) (by rfl)) (pss_one (ps_ret (pe_cal c_of_numbers hr rfl (pa_cons (pv 1) pa_nil)))) pss_nil)
  (pss_cons (ps_if (pt_cmpR (op_inG (hu_of hr)) (pe_ixG (hu_of hr) (pv 1) pe_int (fun _ _ => rfl)) (pe_tupN (pa_cons pe_str (pa_cons pe_str pa_nil))) (by rfl)) (pss_one (ps_ret (pe_cal c_called hr rfl (pa_cons (pv 0) (pa_cons (pv 1) pa_nil))))) pss_nil)
  (pss_cons (ps_if (pt_cmpR (op_eqG (hu2_of hr)) (pe_ixG (hu_of hr) (pv 1) pe_int (fun _ _ => rfl)) pe_str (nomark _)) (pss_one (ps_ret (pe_tupN (pa_cons pe_str (pa_cons (pe_cal c_put_in hr rfl (pa_cons (pe_ixG (hu_of hr) (pv 1) pe_int (fun _ _ => rfl)) (pa_cons (pe_callTy (call_dictPG rfl) (by rfl) T.n_dict (by decide +kernel) (pa_cons (pe_lc (own := [("name", 2), ("one", 3)]) (g := (gTup K 2 (gCons (gName 2) (gCons (gName 3) gNil)))) (tt := tYes) rfl sc_own_step.nd (pi_seq (pe_ixG (hu_of hr) (pv 1) pe_int (fun _ _ => rfl))) (blkOk_by (by kernel_rfl)) (fun _ _ _ _ _ => (pg_tup rfl (pgs_cons (pg_name (i := 2) sc_own_step.nd rfl (by first | exact Or.inl rfl | exact Or.inr rfl)) (pgs_cons (pg_name (i := 3) sc_own_step.nd rfl (by first | exact Or.inl rfl | exact Or.inr rfl)) pgs_nil)))) (fun _ _ _ _ _ => pts_nil) (fun _ _ _ _ _ => (pe_tupN (pa_cons (pv 2) (pa_cons (pe_tupN (pa_cons pe_str (pa_cons (pe_ixG (hu_of hr) (pv 1) pe_int (fun _ _ => rfl)) (pa_cons (pv 3) pa_nil)))) pa_nil))))) pa_nil)) pa_nil))) pa_nil))))) pss_nil)
  (pss_cons (ps_if (pt_cmpR (op_eqG (hu2_of hr)) (pe_ixG (hu_of hr) (pv 1) pe_int (fun _ _ => rfl)) pe_str (nomark _)) (pss_one (ps_ret (pe_tupN (pa_cons pe_str (pa_cons (pe_ixG (hu_of hr) (pv 1) pe_int (fun _ _ => rfl)) pa_nil))))) pss_nil)
  (pss_cons (ps_if (pt_cmpR (op_eqG (hu2_of hr)) (pe_ixG (hu_of hr) (pv 1) pe_int (fun _ _ => rfl)) pe_str (nomark _)) (pss_cons (ps_if (pt_cmpR (op_neG (hu2_of hr)) (pe_ixG (hu_of hr) (pe_ixG (hu_of hr) (pv 1) pe_int (fun _ _ => rfl)) pe_int (fun _ _ => rfl)) pe_str (nomark _)) (pss_one (ps_ret (pe_tupN (pa_cons pe_str (pa_cons pe_str pa_nil))))) pss_nil)
  (pss_one (ps_ret (pe_tupN (pa_cons pe_str (pa_cons (pe_ifExp (pt_cmpR (op_neG (hu2_of hr)) (pe_ixG (hu_of hr) (pe_ixG (hu_of hr) (pv 1) pe_int (fun _ _ => rfl)) pe_int (fun _ _ => rfl)) pe_int (nomark _)) (pe_ixG (hu_of hr) (pv 1) pe_int (fun _ _ => rfl)) (pe_ixG (hu_of hr) (pv 1) pe_int (fun _ _ => rfl))) pa_nil)))))) pss_nil)
  (pss_cons (ps_if (pt_cmpR (op_neG (hu2_of hr)) (pe_ixG (hu_of hr) (pe_ixG (hu_of hr) (pv 1) pe_int (fun _ _ => rfl)) pe_int (fun _ _ => rfl)) pe_str (nomark _)) (pss_one (ps_ret (pe_tupN (pa_cons pe_str (pa_cons pe_str pa_nil))))) pss_nil)
  (pss_one (ps_ret (pe_tupN (pa_cons pe_str (pa_cons (pe_ifExp (pt_cmpR (op_eqG (hu2_of hr)) (pe_ixG (hu_of hr) (pv 1) pe_int (fun _ _ => rfl)) pe_str (nomark _)) (pe_ixG (hu_of hr) (pe_ixG (hu_of hr) (pv 1) pe_int (fun _ _ => rfl)) pe_int (fun _ _ => rfl)) (pe_ixG (hu_of hr) (pe_ixG (hu_of hr) (pv 1) pe_int (fun _ _ => rfl)) pe_int (fun _ _ => rfl))) pa_nil)))))))))))
abbrev st_shown : Stmt := topS 20
theorem sc_shown : FnScope ["part", "head", "things"] ["part"] (defScope st_shown) := ⟨rfl, rfl, rfl, by decide +kernel, rfl, by decide +kernel, by decide +kernel⟩
theorem mk_shown {P : Program} {w : World} {K : PySem.W.Frag} {mg : Str → Option Value} {base : Heap} (T : TX w K mg) {j : Nat} {sp : Sp} {s_spine : Sp} (c_spine : Cal P w K mg base j "spine" s_spine)
    (pure_ : PureOk 1 sp (t_shown K w s_spine) 3) : Cal P w K mg base (j + 1) "shown" sp := by
  obtain ⟨fd, F⟩ := T.d_shown
  refine cal_mk F T.f_shown sc_shown (F.bindsN fun _ _ _ _ _ _ us hl => match us, hl with | [_], _ => rfl) pure_.len fun cdv A outer s H vs Q E hr h => ?_
  refine ⟨t_shown K w s_spine, PSs.nox ?_, pure_.run vs H Q E h⟩
  exact (pss_cons (ps_if (pt_cmpR (op_eqG (hu2_of hr)) (pe_ixG (hu_of hr) (pv 0) pe_int (fun _ _ => rfl)) pe_str (nomark _)) (pss_one (ps_ret (pe_tupN (pa_cons pe_str (pa_cons (pe_ixG (hu_of hr) (pv 0) pe_int (fun _ _ => rfl)) pa_nil))))) pss_nil)
  (pss_cons (ps_if (pt_cmpR (op_eqG (hu2_of hr)) (pe_ixG (hu_of hr) (pv 0) pe_int (fun _ _ => rfl)) pe_str (nomark _)) (pss_one (ps_ret (pe_tupN (pa_cons pe_str pa_nil)))) pss_nil)
  (pss_cons (ps_asg (pe_cal c_spine hr rfl (pa_cons (pv 0) pa_nil)) (pg_tup rfl (pgs_cons (pg_name (i := 1) sc_shown.nd rfl (by first | exact Or.inl rfl | exact Or.inr rfl)) (pgs_cons (pg_name (i := 2) sc_shown.nd rfl (by first | exact Or.inl rfl | exact Or.inr rfl)) pgs_nil))))
  (pss_one (ps_ret (pe_tupN (pa_cons pe_str (pa_cons (pe_ixG (hu_of hr) (pv 1) pe_int (fun _ _ => rfl)) (pa_cons (pe_callB call_lenG (by rfl) T.n_len (by decide +kernel) (pa_cons (pv 2) pa_nil)) pa_nil)))))))))
abbrev st_come_to : Stmt := topS 21
theorem sc_come_to : FnScope ["program", "part", "most", "words", "above", "at", "outer", "word", "found"] ["program", "part", "most"] (defScope st_come_to) := ⟨rfl, rfl, rfl, by decide +kernel, rfl, by decide +kernel, by decide +kernel⟩
theorem mk_come_to {P : Program} {w : World} {K : PySem.W.Frag} {mg : Str → Option Value} {base : Heap} (T : TX w K mg) {j : Nat} {sp : Sp} {s_is_worth s_strict_at s_own_step : Sp} (c_is_worth : Cal P w K mg base j "is_worth" s_is_worth) (c_strict_at : Cal P w K mg base j "strict_at" s_strict_at) (c_own_step : Cal P w K mg base j "own_step" s_own_step)
    (pure_ : PureOk 3 sp (t_come_to K w s_is_worth s_strict_at s_own_step) 9) : Cal P w K mg base (j + 1) "come_to" sp := by
  obtain ⟨fd, F⟩ := T.d_come_to
  refine cal_mk F T.f_come_to sc_come_to (F.bindsN fun _ _ _ _ _ _ us hl => match us, hl with | [_, _, _], _ => rfl) pure_.len fun cdv A outer s H vs Q E hr h => ?_
  refine ⟨t_come_to K w s_is_worth s_strict_at s_own_step, PSs.nox ?_, pure_.run vs H Q E h⟩
  exact (pss_cons (ps_set (i := 3) sc_come_to.nd rfl (Or.inl rfl) (pe_lstN pa_nil))
  (pss_cons (ps_set (i := 4) sc_come_to.nd rfl (Or.inl rfl) (pe_lstN pa_nil))
  (pss_cons (ps_while PassesOwn.never (PW.pt (pw_or (pt_cmpR (op_neG (hu2_of hr)) (pv 4) (pe_lstN pa_nil) (nomark _)) (pw_or1 (pt_not (pt_tru (pe_cal c_is_worth hr rfl (pa_cons (pv 0) (pa_cons (pv 1) pa_nil))) (by intro _; rfl)))))) (pss_cons (ps_set (i := 5) sc_come_to.nd rfl (Or.inl rfl) (pe_ifExp (pt_tru (pe_cal c_is_worth hr rfl (pa_cons (pv 0) (pa_cons (pv 1) pa_nil))) (by intro _; rfl)) pe_int (pe_cal c_strict_at hr rfl (pa_cons (pv 0) (pa_cons (pv 1) pa_nil)))))
  (pss_one (ps_if (pt_tru (pe_cal c_is_worth hr rfl (pa_cons (pv 0) (pa_cons (pv 1) pa_nil))) (by intro _; rfl)) (pss_cons (ps_asg (pe_bm0 PySem.F.plainAttrs_list PySem.F.slot_list_pop PySem.F.type_list_pop mt_popG (pv 4)) (pg_tup rfl (pgs_cons (pg_name (i := 6) sc_come_to.nd rfl (by first | exact Or.inl rfl | exact Or.inr rfl)) (pgs_cons (pg_name (i := 5) sc_come_to.nd rfl (by first | exact Or.inl rfl | exact Or.inr rfl)) pgs_nil))))
  (pss_one (ps_set (i := 1) sc_come_to.nd rfl (Or.inl rfl) (pe_op op_addG (pe_op op_addG (pe_slice sl_any (pv 6) po_none (po_some (pv 5))) (pe_tupN (pa_cons (pv 1) pa_nil))) (pe_slice sl_any (pv 6) (po_some (pe_op op_addG (pv 5) pe_int)) po_none))))) (pss_one (ps_if (pt_cmpR op_gt (pv 5) pe_int (nomark _)) (pss_cons (ps_expr (pe_bm PySem.F.plainAttrs_list PySem.F.slot_list_append PySem.F.type_list_append mt_appendG (pv 4) (pa_cons (pe_tupN (pa_cons (pv 1) (pa_cons (pv 5) pa_nil))) pa_nil)))
  (pss_one (ps_set (i := 1) sc_come_to.nd rfl (Or.inl rfl) (pe_ixG (hu_of hr) (pv 1) (pv 5) (fun _ _ => rfl))))) (pss_cons (ps_asg (pe_cal c_own_step hr rfl (pa_cons (pv 0) (pa_cons (pv 1) pa_nil))) (pg_tup rfl (pgs_cons (pg_name (i := 7) sc_come_to.nd rfl (by first | exact Or.inl rfl | exact Or.inr rfl)) (pgs_cons (pg_name (i := 8) sc_come_to.nd rfl (by first | exact Or.inl rfl | exact Or.inr rfl)) pgs_nil))))
  (pss_cons (ps_if (pt_cmpR (op_eqG (hu2_of hr)) (pv 7) pe_str (nomark _)) (pss_one (ps_ret (pe_tupN (pa_cons pe_str (pa_cons (pv 8) (pa_cons (pv 3) pa_nil)))))) pss_nil)
  (pss_cons (ps_if (pt_cmpR (op_eqG (hu2_of hr)) (pe_callB call_lenG (by rfl) T.n_len (by decide +kernel) (pa_cons (pv 3) pa_nil)) (pv 2) (nomark _)) (pss_one (ps_ret (pe_tupN (pa_cons pe_str (pa_cons (pv 1) (pa_cons (pv 3) pa_nil)))))) pss_nil)
  (pss_cons (ps_expr (pe_bm PySem.F.plainAttrs_list PySem.F.slot_list_append PySem.F.type_list_append mt_appendG (pv 3) (pa_cons (pv 7) pa_nil)))
  (pss_one (ps_set (i := 1) sc_come_to.nd rfl (Or.inl rfl) (pv 8)))))))))))))
  (pss_one (ps_ret (pe_tupN (pa_cons pe_str (pa_cons (pv 1) (pa_cons (pv 3) pa_nil)))))))))
abbrev st_led : Stmt := topS 22
theorem sc_led : FnScope ["program", "part", "most", "word", "found", "words"] ["program", "part", "most"] (defScope st_led) := ⟨rfl, rfl, rfl, by decide +kernel, rfl, by decide +kernel, by decide +kernel⟩
theorem mk_led {P : Program} {w : World} {K : PySem.W.Frag} {mg : Str → Option Value} {base : Heap} (T : TX w K mg) {j : Nat} {sp : Sp} {s_come_to s_shown : Sp} (c_come_to : Cal P w K mg base j "come_to" s_come_to) (c_shown : Cal P w K mg base j "shown" s_shown)
    (pure_ : PureOk 3 sp (t_led K w s_come_to s_shown) 6) : Cal P w K mg base (j + 1) "led" sp := by
  obtain ⟨fd, F⟩ := T.d_led
  refine cal_mk F T.f_led sc_led (F.bindsN fun _ _ _ _ _ _ us hl => match us, hl with | [_, _, _], _ => rfl) pure_.len fun cdv A outer s H vs Q E hr h => ?_
  refine ⟨t_led K w s_come_to s_shown, PSs.nox ?_, pure_.run vs H Q E h⟩
  exact (pss_cons (ps_asg (pe_cal c_come_to hr rfl (pa_cons (pv 0) (pa_cons (pv 1) (pa_cons (pv 2) pa_nil)))) (pg_tup rfl (pgs_cons (pg_name (i := 3) sc_led.nd rfl (by first | exact Or.inl rfl | exact Or.inr rfl)) (pgs_cons (pg_name (i := 4) sc_led.nd rfl (by first | exact Or.inl rfl | exact Or.inr rfl)) (pgs_cons (pg_name (i := 5) sc_led.nd rfl (by first | exact Or.inl rfl | exact Or.inr rfl)) pgs_nil)))))
  (pss_cons (ps_if (pt_cmpR (op_eqG (hu2_of hr)) (pv 3) pe_str (nomark _)) (pss_one (ps_ret (pe_tupN (pa_cons (pe_cal c_shown hr rfl (pa_cons (pv 4) pa_nil)) (pa_cons (pv 5) pa_nil))))) pss_nil)
  (pss_cons (ps_if (pt_cmpR (op_eqG (hu2_of hr)) (pv 3) pe_str (nomark _)) (pss_one (ps_ret (pe_tupN (pa_cons (pe_tupN (pa_cons pe_str (pa_cons (pv 4) pa_nil))) (pa_cons (pv 5) pa_nil))))) pss_nil)
  (pss_one (ps_ret (pe_tupN (pa_cons (pe_tupN (pa_cons pe_str pa_nil)) (pa_cons (pv 5) pa_nil))))))))
abbrev st_law_pen : Stmt := topS 24
theorem sc_law_pen : FnScope ["_law_script"] ["_law_script"] (defScope st_law_pen) := ⟨rfl, rfl, rfl, by decide +kernel, rfl, by decide +kernel, by decide +kernel⟩
theorem mk_law_pen {P : Program} {w : World} {K : PySem.W.Frag} {mg : Str → Option Value} {base : Heap} (T : TX w K mg) {j : Nat} {sp : Sp}
    (pure_ : PureOk 1 sp (t_law_pen K w ) 1) : Cal P w K mg base (j + 1) "_law_pen" sp := by
  obtain ⟨fd, F⟩ := T.d_law_pen
  refine cal_mk F T.f_law_pen sc_law_pen (F.bindsN fun _ _ _ _ _ _ us hl => match us, hl with | [_], _ => rfl) pure_.len fun cdv A outer s H vs Q E hr h => ?_
  refine ⟨t_law_pen K w , PSs.nox ?_, pure_.run vs H Q E h⟩
  exact (pss_one (ps_ret (pe_lstN (pa_cons (pe_callTy (call_listG rfl) (by rfl) T.n_list (by decide +kernel) (pa_cons (pe_slice sl_any (pv 0) po_none (po_some pe_int)) pa_nil)) (pa_cons pe_int (pa_cons pe_int pa_nil))))))
abbrev st_law_draw : Stmt := topS 25
theorem sc_law_draw : FnScope ["_law_pen_here", "_law_many", "_law_digit", "_law_at", "_law_cell", "_law_prime", "_law_number"] ["_law_pen_here", "_law_many"] (defScope st_law_draw) := ⟨rfl, rfl, rfl, by decide +kernel, rfl, by decide +kernel, by decide +kernel⟩
theorem mk_law_draw {P : Program} {w : World} {K : PySem.W.Frag} {mg : Str → Option Value} {base : Heap} (T : TX w K mg) {j : Nat} {sp : Sp}
    (pure_ : PureOk 2 sp (t_law_draw K w ) 7) : Cal P w K mg base (j + 1) "_law_draw" sp := by
  obtain ⟨fd, F⟩ := T.d_law_draw
  refine cal_mk F T.f_law_draw sc_law_draw (F.bindsN fun _ _ _ _ _ _ us hl => match us, hl with | [_, _], _ => rfl) pure_.len fun cdv A outer s H vs Q E hr h => ?_
  refine ⟨t_law_draw K w , PSs.nox ?_, pure_.run vs H Q E h⟩
  exact (pss_cons (ps_if (pt_cmpR op_gt (pe_ixG (hu_of hr) (pv 0) pe_int (fun _ _ => rfl)) pe_int (nomark _)) (pss_cons (ps_set (i := 2) sc_law_draw.nd rfl (Or.inl rfl) (pe_op op_mod (pe_ixG (hu_of hr) (pv 0) pe_int (fun _ _ => rfl)) (pv 1)))
  (pss_cons (ps_asg (pe_op op_fdivW (pe_ixG (hu_of hr) (pv 0) pe_int (fun _ _ => rfl)) (pv 1)) (pg_sub (pv 0) pe_int (set_any (hu_of hr))))
  (pss_one (ps_ret (pv 2))))) pss_nil)
  (pss_cons (ps_set (i := 3) sc_law_draw.nd rfl (Or.inl rfl) (pe_ixG (hu_of hr) (pv 0) pe_int (fun _ _ => rfl)))
  (pss_cons (ps_asg (pe_op op_addG (pv 3) pe_int) (pg_sub (pv 0) pe_int (set_any (hu_of hr))))
  (pss_cons (ps_set (i := 4) sc_law_draw.nd rfl (Or.inl rfl) (pe_ixG (hu_of hr) (pe_op op_addG (pe_ixG (hu_of hr) (pv 0) pe_int (fun _ _ => rfl)) (pe_lstN (pa_cons pe_int pa_nil))) (pe_op op_mod (pv 3) (pe_callB (call_max2 rfl) (by rfl) T.n_max (by decide +kernel) (pa_cons pe_int (pa_cons (pe_callB call_lenG (by rfl) T.n_len (by decide +kernel) (pa_cons (pe_ixG (hu_of hr) (pv 0) pe_int (fun _ _ => rfl)) pa_nil)) pa_nil)))) (fun _ _ => rfl)))
  (pss_cons (ps_if (PW.pt (pw_and (pt_cmpR op_lt (pv 3) (pe_callB call_lenG (by rfl) T.n_len (by decide +kernel) (pa_cons (pe_ixG (hu_of hr) (pv 0) pe_int (fun _ _ => rfl)) pa_nil)) (nomark _)) (pw_and1 (pt_cmpR op_ge (pe_callB call_abs (by rfl) T.n_abs (by decide +kernel) (pa_cons (pv 4) pa_nil)) (pe_op op_pow pe_int pe_int) (nomark _))))) (pss_cons (ps_asg (pe_op op_fdivW (pe_callB call_abs (by rfl) T.n_abs (by decide +kernel) (pa_cons (pv 4) pa_nil)) (pv 1)) (pg_sub (pv 0) pe_int (set_any (hu_of hr))))
  (pss_one (ps_ret (pe_op op_mod (pe_callB call_abs (by rfl) T.n_abs (by decide +kernel) (pa_cons (pv 4) pa_nil)) (pv 1))))) pss_nil)
  (pss_cons (ps_set (i := 5) sc_law_draw.nd rfl (Or.inl rfl) (pe_ixG (hu_of hr) (pe_lstN (pa_cons pe_int (pa_cons pe_int (pa_cons pe_int (pa_cons pe_int (pa_cons pe_int (pa_cons pe_int (pa_cons pe_int pa_nil)))))))) (pe_op op_mod (pv 3) pe_int) (fun _ _ => rfl)))
  (pss_cons (ps_set (i := 6) sc_law_draw.nd rfl (Or.inl rfl) (pe_op op_mod (pe_op op_mulG (pe_op op_addG (pe_op op_addG (pe_op op_mod (pv 4) pe_int) (pe_op op_mulG pe_int (pv 3))) pe_int) pe_int) (pv 5)))
  (pss_cons (ps_set (i := 6) sc_law_draw.nd rfl (Or.inl rfl) (pe_op op_mod (pe_op op_addG (pe_op op_addG (pe_op op_mulG (pv 6) (pv 6)) (pe_op op_mulG pe_int (pv 6))) (pv 3)) pe_int))
  (pss_one (ps_ret (pe_op op_mod (pe_op op_fdivW (pe_op op_mod (pe_op op_mulG (pv 6) pe_int) pe_int) pe_int) (pv 1))))))))))))
abbrev st_law_called : Stmt := topS 26
theorem sc_law_called : FnScope ["_law_program", "_law_f", "_law_given", "_law_names", "_law_body", "_law_name", "_law_known", "_law_thing"] ["_law_program", "_law_f", "_law_given"] (defScope st_law_called) := ⟨rfl, rfl, rfl, by decide +kernel, rfl, by decide +kernel, by decide +kernel⟩
theorem mk_law_called {P : Program} {w : World} {K : PySem.W.Frag} {mg : Str → Option Value} {base : Heap} (T : TX w K mg) {j : Nat} {sp : Sp}
    (pure_ : PureOk 3 sp (t_law_called K w ) 8) : Cal P w K mg base (j + 1) "_law_called" sp := by
  obtain ⟨fd, F⟩ := T.d_law_called
  refine cal_mk F T.f_law_called sc_law_called (F.bindsN fun _ _ _ _ _ _ us hl => match us, hl with | [_, _, _], _ => rfl) pure_.len fun cdv A outer s H vs Q E hr h => ?_
  refine ⟨t_law_called K w , PSs.nox ?_, pure_.run vs H Q E h⟩
  exact (pss_cons (ps_asg (pe_ixG (hu_of hr) (pe_lc (own := [("_law_name", 5), ("_law_names", 3), ("_law_body", 4)]) (g := (gTup K 3 (gCons (gName 5) (gCons (gName 3) (gCons (gName 4) gNil))))) (tt := (tTest (tOp (rEqG K) (tVar 5) (tVar 1)))) rfl sc_law_called.nd (pi_seq (pe_ixG (hu_of hr) (pv 0) pe_int (fun _ _ => rfl))) (blkOk_by (by kernel_rfl)) (fun _ _ _ _ _ => (pg_tup rfl (pgs_cons (pg_name (i := 5) sc_law_called.nd rfl (by first | exact Or.inl rfl | exact Or.inr rfl)) (pgs_cons (pg_name (i := 3) sc_law_called.nd rfl (by first | exact Or.inl rfl | exact Or.inr rfl)) (pgs_cons (pg_name (i := 4) sc_law_called.nd rfl (by first | exact Or.inl rfl | exact Or.inr rfl)) pgs_nil))))) (fun _ _ _ _ _ => (pts_one (pt_cmpR (op_eqG (hu2_of hr)) (pv 5) (pv 1) (nomark _)))) (fun _ _ _ _ _ => (pe_tupN (pa_cons (pv 3) (pa_cons (pv 4) pa_nil))))) pe_int (fun _ _ => rfl)) (pg_tup rfl (pgs_cons (pg_name (i := 3) sc_law_called.nd rfl (by first | exact Or.inl rfl | exact Or.inr rfl)) (pgs_cons (pg_name (i := 4) sc_law_called.nd rfl (by first | exact Or.inl rfl | exact Or.inr rfl)) pgs_nil))))
  (pss_cons (ps_set (i := 6) sc_law_called.nd rfl (Or.inl rfl) pe_dnewKN)
  (pss_cons (ps_for PassesOwn.never rfl (pi_zipM (by rfl) T.n_zip (pa_cons (pv 3) (pa_cons (pv 2) pa_nil))) (pg_tup rfl (pgs_cons (pg_name (i := 5) sc_law_called.nd rfl (by first | exact Or.inl rfl | exact Or.inr rfl)) (pgs_cons (pg_name (i := 7) sc_law_called.nd rfl (by first | exact Or.inl rfl | exact Or.inr rfl)) pgs_nil))) (pss_one (ps_asg (pe_op op_addG (pv 7) (pe_tupN (pa_cons pe_bl pa_nil))) (pg_sub (pv 6) (pv 5) (set_any (hu_of hr))))))
  (pss_one (ps_ret (pe_tupN (pa_cons (pv 4) (pa_cons (pv 6) pa_nil))))))))
abbrev st_law_wants : Stmt := topS 27
theorem sc_law_wants : FnScope ["_law_program", "_law_f", "_law_name", "_law_names", "_law_body"] ["_law_program", "_law_f"] (defScope st_law_wants) := ⟨rfl, rfl, rfl, by decide +kernel, rfl, by decide +kernel, by decide +kernel⟩
theorem mk_law_wants {P : Program} {w : World} {K : PySem.W.Frag} {mg : Str → Option Value} {base : Heap} (T : TX w K mg) {j : Nat} {sp : Sp}
    (pure_ : PureOk 2 sp (t_law_wants K w ) 5) : Cal P w K mg base (j + 1) "_law_wants" sp := by
  obtain ⟨fd, F⟩ := T.d_law_wants
  refine cal_mk F T.f_law_wants sc_law_wants (F.bindsN fun _ _ _ _ _ _ us hl => match us, hl with | [_, _], _ => rfl) pure_.len fun cdv A outer s H vs Q E hr h => ?_
  refine ⟨t_law_wants K w , PSs.nox ?_, pure_.run vs H Q E h⟩
  exact (pss_one (ps_ret (pe_callB call_lenG (by rfl) T.n_len (by decide +kernel) (pa_cons (pe_ixG (hu_of hr) (pe_lc (own := [("_law_name", 2), ("_law_names", 3), ("_law_body", 4)]) (g := (gTup K 3 (gCons (gName 2) (gCons (gName 3) (gCons (gName 4) gNil))))) (tt := (tTest (tOp (rEqG K) (tVar 2) (tVar 1)))) rfl sc_law_wants.nd (pi_seq (pe_ixG (hu_of hr) (pv 0) pe_int (fun _ _ => rfl))) (blkOk_by (by kernel_rfl)) (fun _ _ _ _ _ => (pg_tup rfl (pgs_cons (pg_name (i := 2) sc_law_wants.nd rfl (by first | exact Or.inl rfl | exact Or.inr rfl)) (pgs_cons (pg_name (i := 3) sc_law_wants.nd rfl (by first | exact Or.inl rfl | exact Or.inr rfl)) (pgs_cons (pg_name (i := 4) sc_law_wants.nd rfl (by first | exact Or.inl rfl | exact Or.inr rfl)) pgs_nil))))) (fun _ _ _ _ _ => (pts_one (pt_cmpR (op_eqG (hu2_of hr)) (pv 2) (pv 1) (nomark _)))) (fun _ _ _ _ _ => (pv 3))) pe_int (fun _ _ => rfl)) pa_nil))))
abbrev st_law_into : Stmt := topS 28
theorem sc_law_into : FnScope ["_law_program", "_law_here", "_law_frames", "_law_words", "_law_part", "_law_known", "_law_inner", "_law_name", "_law_one"] ["_law_program", "_law_here", "_law_frames", "_law_words"] (defScope st_law_into) := ⟨rfl, rfl, rfl, by decide +kernel, rfl, by decide +kernel, by decide +kernel⟩
theorem mk_law_into {P : Program} {w : World} {K : PySem.W.Frag} {mg : Str → Option Value} {base : Heap} (T : TX w K mg) {j : Nat} {sp : Sp} {s_law_wants s_law_called : Sp} (c_law_wants : Cal P w K mg base j "_law_wants" s_law_wants) (c_law_called : Cal P w K mg base j "_law_called" s_law_called)
    (pure_ : PureOk 4 sp (t_law_into K w s_law_wants s_law_called) 9) : Cal P w K mg base (j + 1) "_law_into" sp := by
  obtain ⟨fd, F⟩ := T.d_law_into
  refine cal_mk F T.f_law_into sc_law_into (F.bindsN fun _ _ _ _ _ _ us hl => match us, hl with | [_, _, _, _], _ => rfl) pure_.len fun cdv A outer s H vs Q E hr h => ?_
  refine ⟨t_law_into K w s_law_wants s_law_called, PSs.nox ?_, pure_.run vs H Q E h⟩
  exact (pss_cons (ps_asg (pv 1) (pg_tup rfl (pgs_cons (pg_name (i := 4) sc_law_into.nd rfl (by first | exact Or.inl rfl | exact Or.inr rfl)) (pgs_cons (pg_name (i := 5) sc_law_into.nd rfl (by first | exact Or.inl rfl | exact Or.inr rfl)) pgs_nil))))
  (pss_cons (ps_if (pt_cmpR (op_eqG (hu2_of hr)) (pe_ixG (hu_of hr) (pv 4) pe_int (fun _ _ => rfl)) pe_str (nomark _)) (pss_one (ps_ret (pe_tupN (pa_cons pe_non (pa_cons (pe_tupN (pa_cons pe_str (pa_cons (pe_ixG (hu_of hr) (pv 4) pe_int (fun _ _ => rfl)) pa_nil))) pa_nil))))) pss_nil)
  (pss_cons (ps_if (pt_cmpR (op_eqG (hu2_of hr)) (pe_ixG (hu_of hr) (pv 4) pe_int (fun _ _ => rfl)) pe_str (nomark _)) (pss_one (ps_ret (pe_tupN (pa_cons pe_non (pa_cons (pe_tupN (pa_cons pe_str (pa_cons (pe_tupN (pa_cons (pe_ixG (hu_of hr) (pv 4) pe_int (fun _ _ => rfl)) (pa_cons (pv 5) pa_nil))) (pa_cons (pe_tupN (pa_cons (pe_ixG (hu_of hr) (pv 4) pe_int (fun _ _ => rfl)) (pa_cons (pv 5) pa_nil))) pa_nil)))) pa_nil))))) pss_nil)
  (pss_cons (ps_if (pt_cmpR (op_eqG (hu2_of hr)) (pe_ixG (hu_of hr) (pv 4) pe_int (fun _ _ => rfl)) pe_str (nomark _)) (pss_cons (ps_expr (pe_bm PySem.F.plainAttrs_list PySem.F.slot_list_extend PySem.F.type_list_extend mt_extendG (pv 3) (pa_cons (pe_slice sl_any (pe_lstN (pa_cons pe_str (pa_cons pe_str pa_nil))) po_none (po_some (pe_op op_addG pe_int (pe_callTy call_int1 (by rfl) T.n_int (by decide +kernel) (pa_cons (pe_ixG (hu_of hr) (pe_ixG (hu_of hr) (pv 5) (pe_ixG (hu_of hr) (pv 4) pe_int (fun _ _ => rfl)) (fun _ _ => rfl)) pe_int (fun _ _ => rfl)) pa_nil))))) pa_nil)))
  (pss_one (ps_ret (pe_tupN (pa_cons (pe_slice sl_any (pe_ixG (hu_of hr) (pv 5) (pe_ixG (hu_of hr) (pv 4) pe_int (fun _ _ => rfl)) (fun _ _ => rfl)) po_none (po_some pe_int)) (pa_cons pe_non pa_nil)))))) pss_nil)
  (pss_cons (ps_if (pt_cmpR (op_eqG (hu2_of hr)) (pe_ixG (hu_of hr) (pv 4) pe_int (fun _ _ => rfl)) pe_str (nomark _)) (pss_cons (ps_expr (pe_bm PySem.F.plainAttrs_list PySem.F.slot_list_append PySem.F.type_list_append mt_appendG (pv 3) (pa_cons pe_str pa_nil)))
  (pss_cons (ps_set (i := 6) sc_law_into.nd rfl (Or.inl rfl) (pe_callTy call_dictG (by rfl) T.n_dict (by decide +kernel) (pa_cons (pv 5) pa_nil)))
  (pss_cons (ps_for PassesOwn.never rfl (pi_seq (pe_ixG (hu_of hr) (pv 4) pe_int (fun _ _ => rfl))) (pg_tup rfl (pgs_cons (pg_name (i := 7) sc_law_into.nd rfl (by first | exact Or.inl rfl | exact Or.inr rfl)) (pgs_cons (pg_name (i := 8) sc_law_into.nd rfl (by first | exact Or.inl rfl | exact Or.inr rfl)) pgs_nil))) (pss_one (ps_asg (pe_tupN (pa_cons (pv 8) (pa_cons (pv 6) (pa_cons pe_bl pa_nil)))) (pg_sub (pv 6) (pv 7) (set_any (hu_of hr))))))
  (pss_one (ps_ret (pe_tupN (pa_cons (pe_tupN (pa_cons (pe_ixG (hu_of hr) (pv 4) pe_int (fun _ _ => rfl)) (pa_cons (pv 6) pa_nil))) (pa_cons pe_non pa_nil)))))))) pss_nil)
  (pss_cons (ps_if (PW.pt (pw_and (pt_cmpR (op_eqG (hu2_of hr)) (pe_ixG (hu_of hr) (pv 4) pe_int (fun _ _ => rfl)) pe_str (nomark _)) (pw_and1 (pt_cmpR (op_eqG (hu2_of hr)) (pe_cal c_law_wants hr rfl (pa_cons (pv 0) (pa_cons (pe_ixG (hu_of hr) (pv 4) pe_int (fun _ _ => rfl)) pa_nil))) pe_int (nomark _))))) (pss_cons (ps_expr (pe_bm PySem.F.plainAttrs_list PySem.F.slot_list_append PySem.F.type_list_append mt_appendG (pv 3) (pa_cons pe_str pa_nil)))
  (pss_one (ps_ret (pe_tupN (pa_cons (pe_cal c_law_called hr rfl (pa_cons (pv 0) (pa_cons (pe_ixG (hu_of hr) (pv 4) pe_int (fun _ _ => rfl)) (pa_cons (pe_lstN pa_nil) pa_nil)))) (pa_cons pe_non pa_nil)))))) pss_nil)
  (pss_cons (ps_if (pt_cmpR (op_eqG (hu2_of hr)) (pe_ixG (hu_of hr) (pv 4) pe_int (fun _ _ => rfl)) pe_str (nomark _)) (pss_one (ps_ret (pe_tupN (pa_cons pe_non (pa_cons (pe_tupN (pa_cons pe_str (pa_cons (pe_ixG (hu_of hr) (pv 4) pe_int (fun _ _ => rfl)) (pa_cons (pe_lstN pa_nil) pa_nil)))) pa_nil))))) pss_nil)
  (pss_cons (ps_expr (pe_bm PySem.F.plainAttrs_list PySem.F.slot_list_append PySem.F.type_list_append mt_appendG (pv 2) (pa_cons (pe_tupN (pa_cons (pv 4) (pa_cons (pv 5) pa_nil))) pa_nil)))
  (pss_one (ps_ret (pe_tupN (pa_cons (pe_tupN (pa_cons (pe_ixG (hu_of hr) (pv 4) pe_int (fun _ _ => rfl)) (pa_cons (pv 5) pa_nil))) (pa_cons pe_non pa_nil)))))))))))))
abbrev st_law_second : Stmt := topS 29
theorem sc_law_second : FnScope ["_law_kind", "_law_one", "_law_worth", "_law_words", "_law_other", "_law_number"] ["_law_kind", "_law_one", "_law_worth", "_law_words"] (defScope st_law_second) := ⟨rfl, rfl, rfl, by decide +kernel, rfl, by decide +kernel, by decide +kernel⟩
theorem mk_law_second {P : Program} {w : World} {K : PySem.W.Frag} {mg : Str → Option Value} {base : Heap} (T : TX w K mg) {j : Nat} {sp : Sp}
    (pure_ : PureOk 4 sp (t_law_second K w ) 6) : Cal P w K mg base (j + 1) "_law_second" sp := by
  obtain ⟨fd, F⟩ := T.d_law_second
  refine cal_mk F T.f_law_second sc_law_second (F.bindsN fun _ _ _ _ _ _ us hl => match us, hl with | [_, _, _, _], _ => rfl) pure_.len fun cdv A outer s H vs Q E hr h => ?_
  refine ⟨t_law_second K w , PSs.nox ?_, pure_.run vs H Q E h⟩
  exact (pss_cons (ps_if (pt_cmpR (op_neG (hu2_of hr)) (pe_ixG (hu_of hr) (pv 2) pe_int (fun _ _ => rfl)) pe_str (nomark _)) (pss_one (ps_ret (pe_tupN (pa_cons pe_non (pa_cons pe_non (pa_cons pe_str pa_nil)))))) pss_nil)
  (pss_cons (ps_set (i := 4) sc_law_second.nd rfl (Or.inl rfl) (pe_ixG (hu_of hr) (pv 2) pe_int (fun _ _ => rfl)))
  (pss_cons (ps_set (i := 5) sc_law_second.nd rfl (Or.inl rfl) (pe_ixG (hu_of hr) (pe_dispN (pps_cons (pe_cl pe_str) (pe_cl (pe_op op_addG (pv 1) (pv 4))) (pps_cons (pe_cl pe_str) (pe_cl (pe_op op_sub (pv 1) (pv 4))) (pps_cons (pe_cl pe_str) (pe_cl (pe_op op_mulG (pv 1) (pv 4))) (pps_cons (pe_cl pe_str) (pe_cl (pe_callTy call_int1 (by rfl) T.n_int (by decide +kernel) (pa_cons (pe_cmpR op_lt (pv 1) (pv 4) (nomark _)) pa_nil))) pps_nil)))) (by rfl) (by rfl) (fun z => by cases z) (by decide)) (pv 0) (fun _ _ => rfl)))
  (pss_cons (ps_if (pt_cmpR op_ge (pe_callB call_abs (by rfl) T.n_abs (by decide +kernel) (pa_cons (pv 5) pa_nil)) (pe_op op_pow pe_int pe_int) (nomark _)) (pss_one (ps_ret (pe_tupN (pa_cons pe_non (pa_cons pe_non (pa_cons pe_str pa_nil)))))) pss_nil)
  (pss_cons (ps_expr (pe_bm PySem.F.plainAttrs_list PySem.F.slot_list_append PySem.F.type_list_append mt_appendG (pv 3) (pa_cons pe_str pa_nil)))
  (pss_one (ps_ret (pe_tupN (pa_cons pe_non (pa_cons (pe_tupN (pa_cons pe_str (pa_cons (pv 5) pa_nil))) (pa_cons pe_str pa_nil)))))))))))
abbrev st_law_out : Stmt := topS 30
theorem sc_law_out : FnScope ["_law_program", "_law_frame", "_law_worth", "_law_frames", "_law_words", "_law_part", "_law_known", "_law_given"] ["_law_program", "_law_frame", "_law_worth", "_law_frames", "_law_words"] (defScope st_law_out) := ⟨rfl, rfl, rfl, by decide +kernel, rfl, by decide +kernel, by decide +kernel⟩
theorem mk_law_out {P : Program} {w : World} {K : PySem.W.Frag} {mg : Str → Option Value} {base : Heap} (T : TX w K mg) {j : Nat} {sp : Sp} {s_law_second s_law_wants s_law_called : Sp} (c_law_second : Cal P w K mg base j "_law_second" s_law_second) (c_law_wants : Cal P w K mg base j "_law_wants" s_law_wants) (c_law_called : Cal P w K mg base j "_law_called" s_law_called)
    (pure_ : PureOk 5 sp (t_law_out K w s_law_second s_law_wants s_law_called) 8) : Cal P w K mg base (j + 1) "_law_out" sp := by
  obtain ⟨fd, F⟩ := T.d_law_out
  refine cal_mk F T.f_law_out sc_law_out (F.bindsN fun _ _ _ _ _ _ us hl => match us, hl with | [_, _, _, _, _], _ => rfl) pure_.len fun cdv A outer s H vs Q E hr h => ?_
  refine ⟨t_law_out K w s_law_second s_law_wants s_law_called, PSs.nox ?_, pure_.run vs H Q E h⟩
  exact (pss_cons (ps_asg (pv 1) (pg_tup rfl (pgs_cons (pg_name (i := 5) sc_law_out.nd rfl (by first | exact Or.inl rfl | exact Or.inr rfl)) (pgs_cons (pg_name (i := 6) sc_law_out.nd rfl (by first | exact Or.inl rfl | exact Or.inr rfl)) pgs_nil))))
  (pss_cons (ps_if (pt_cmpR (op_eqG (hu2_of hr)) (pe_ixG (hu_of hr) (pv 5) pe_int (fun _ _ => rfl)) pe_str (nomark _)) (pss_one (ps_ret (pe_cal c_law_second hr rfl (pa_cons (pe_ixG (hu_of hr) (pv 5) pe_int (fun _ _ => rfl)) (pa_cons (pe_ixG (hu_of hr) (pv 5) pe_int (fun _ _ => rfl)) (pa_cons (pv 2) (pa_cons (pv 4) pa_nil))))))) pss_nil)
  (pss_cons (ps_if (PW.pt (pw_and (pt_cmpR (op_eqG (hu2_of hr)) (pe_ixG (hu_of hr) (pv 5) pe_int (fun _ _ => rfl)) pe_str (nomark _)) (pw_and1 (pt_cmpR (op_eqG (hu2_of hr)) (pe_ixG (hu_of hr) (pv 2) pe_int (fun _ _ => rfl)) pe_str (nomark _))))) (pss_cons (ps_set (i := 7) sc_law_out.nd rfl (Or.inl rfl) (pe_op op_addG (pe_ixG (hu_of hr) (pv 2) pe_int (fun _ _ => rfl)) (pe_lstN (pa_cons (pe_tupN (pa_cons (pe_ixG (hu_of hr) (pv 5) pe_int (fun _ _ => rfl)) (pa_cons (pv 6) pa_nil))) pa_nil))))
  (pss_cons (ps_if (pt_cmpR op_lt (pe_callB call_lenG (by rfl) T.n_len (by decide +kernel) (pa_cons (pv 7) pa_nil)) (pe_cal c_law_wants hr rfl (pa_cons (pv 0) (pa_cons (pe_ixG (hu_of hr) (pv 2) pe_int (fun _ _ => rfl)) pa_nil))) (nomark _)) (pss_one (ps_ret (pe_tupN (pa_cons pe_non (pa_cons (pe_tupN (pa_cons pe_str (pa_cons (pe_ixG (hu_of hr) (pv 2) pe_int (fun _ _ => rfl)) (pa_cons (pv 7) pa_nil)))) (pa_cons pe_str pa_nil)))))) pss_nil)
  (pss_cons (ps_expr (pe_bm PySem.F.plainAttrs_list PySem.F.slot_list_append PySem.F.type_list_append mt_appendG (pv 4) (pa_cons pe_str pa_nil)))
  (pss_one (ps_ret (pe_tupN (pa_cons (pe_cal c_law_called hr rfl (pa_cons (pv 0) (pa_cons (pe_ixG (hu_of hr) (pv 2) pe_int (fun _ _ => rfl)) (pa_cons (pv 7) pa_nil)))) (pa_cons pe_non (pa_cons pe_str pa_nil))))))))) pss_nil)
  (pss_cons (ps_if (PW.pt (pw_and (pt_cmpR (op_inG (hu_of hr)) (pe_ixG (hu_of hr) (pv 5) pe_int (fun _ _ => rfl)) (pe_tupN (pa_cons pe_str (pa_cons pe_str pa_nil))) (by rfl)) (pw_and1 (pt_cmpR (op_eqG (hu2_of hr)) (pe_ixG (hu_of hr) (pv 2) pe_int (fun _ _ => rfl)) pe_str (nomark _))))) (pss_cons (ps_expr (pe_bm PySem.F.plainAttrs_list PySem.F.slot_list_append PySem.F.type_list_append mt_appendG (pv 4) (pa_cons pe_str pa_nil)))
  (pss_one (ps_ret (pe_tupN (pa_cons (pe_ixG (hu_of hr) (pv 2) (pe_op op_addG pe_int (pe_callTy call_int1 (by rfl) T.n_int (by decide +kernel) (pa_cons (pe_cmpR (op_eqG (hu2_of hr)) (pe_ixG (hu_of hr) (pv 5) pe_int (fun _ _ => rfl)) pe_str (nomark _)) pa_nil))) (fun _ _ => rfl)) (pa_cons pe_non (pa_cons pe_str pa_nil))))))) pss_nil)
  (pss_cons (ps_if (PW.pt (pw_or (pt_cmpR (op_inG (hu_of hr)) (pe_ixG (hu_of hr) (pv 5) pe_int (fun _ _ => rfl)) (pe_tupN (pa_cons pe_str (pa_cons pe_str (pa_cons pe_str pa_nil)))) (by rfl)) (pw_or1 (pt_cmpR (op_neG (hu2_of hr)) (pe_ixG (hu_of hr) (pv 2) pe_int (fun _ _ => rfl)) pe_str (nomark _))))) (pss_one (ps_ret (pe_tupN (pa_cons pe_non (pa_cons pe_non (pa_cons (pe_dget2 (hu_of hr) (pe_dispN (pps_cons (pe_cl pe_str) (pe_cl pe_str) (pps_cons (pe_cl pe_str) (pe_cl pe_str) (pps_cons (pe_cl pe_str) (pe_cl pe_str) pps_nil))) (by rfl) (by rfl) (fun z => by cases z) (by decide)) (pe_ixG (hu_of hr) (pv 5) pe_int (fun _ _ => rfl)) pe_str ⟨rfl, rfl, rfl, rfl⟩) pa_nil)))))) pss_nil)
  (pss_cons (ps_if (pt_cmpR (op_eqG (hu2_of hr)) (pe_ixG (hu_of hr) (pv 5) pe_int (fun _ _ => rfl)) pe_str (nomark _)) (pss_cons (ps_expr (pe_bm PySem.F.plainAttrs_list PySem.F.slot_list_append PySem.F.type_list_append mt_appendG (pv 4) (pa_cons pe_str pa_nil)))
  (pss_one (ps_ret (pe_tupN (pa_cons (pe_tupN (pa_cons (pe_ixG (hu_of hr) (pv 5) (pe_op op_addG pe_int (pe_callTy call_int1 (by rfl) T.n_int (by decide +kernel) (pa_cons (pe_cmpR (op_eqG (hu2_of hr)) (pe_ixG (hu_of hr) (pv 2) pe_int (fun _ _ => rfl)) pe_int (nomark _)) pa_nil))) (fun _ _ => rfl)) (pa_cons (pv 6) pa_nil))) (pa_cons pe_non (pa_cons pe_str pa_nil))))))) pss_nil)
  (pss_cons (ps_expr (pe_bm PySem.F.plainAttrs_list PySem.F.slot_list_append PySem.F.type_list_append mt_appendG (pv 3) (pa_cons (pe_tupN (pa_cons (pe_tupN (pa_cons pe_str (pa_cons (pe_ixG (hu_of hr) (pv 5) pe_int (fun _ _ => rfl)) (pa_cons (pe_ixG (hu_of hr) (pv 2) pe_int (fun _ _ => rfl)) pa_nil)))) (pa_cons pe_dnewKN pa_nil))) pa_nil)))
  (pss_one (ps_ret (pe_tupN (pa_cons (pe_tupN (pa_cons (pe_ixG (hu_of hr) (pv 5) pe_int (fun _ _ => rfl)) (pa_cons (pv 6) pa_nil))) (pa_cons pe_non (pa_cons pe_str pa_nil)))))))))))))
abbrev st_law_come : Stmt := topS 31
theorem sc_law_come : FnScope ["_law_program", "_law_here", "_law_most", "_law_frames", "_law_words", "_law_worth", "_law_fault"] ["_law_program", "_law_here", "_law_most"] (defScope st_law_come) := ⟨rfl, rfl, rfl, by decide +kernel, rfl, by decide +kernel, by decide +kernel⟩
theorem mk_law_come {P : Program} {w : World} {K : PySem.W.Frag} {mg : Str → Option Value} {base : Heap} (T : TX w K mg) {j : Nat} {sp : Sp} {s_law_into s_law_out : Sp} (c_law_into : Cal P w K mg base j "_law_into" s_law_into) (c_law_out : Cal P w K mg base j "_law_out" s_law_out)
    (pure_ : PureOk 3 sp (t_law_come K w s_law_into s_law_out) 7) : Cal P w K mg base (j + 1) "_law_come" sp := by
  obtain ⟨fd, F⟩ := T.d_law_come
  refine cal_mk F T.f_law_come sc_law_come (F.bindsN fun _ _ _ _ _ _ us hl => match us, hl with | [_, _, _], _ => rfl) pure_.len fun cdv A outer s H vs Q E hr h => ?_
  refine ⟨t_law_come K w s_law_into s_law_out, PSs.nox ?_, pure_.run vs H Q E h⟩
  exact (pss_cons (ps_set (i := 3) sc_law_come.nd rfl (Or.inl rfl) (pe_lstN pa_nil))
  (pss_cons (ps_set (i := 4) sc_law_come.nd rfl (Or.inl rfl) (pe_lstN pa_nil))
  (pss_cons (ps_set (i := 5) sc_law_come.nd rfl (Or.inl rfl) pe_non)
  (pss_cons (ps_while PassesOwn.never (pt_cmpR op_le (pe_callB call_lenG (by rfl) T.n_len (by decide +kernel) (pa_cons (pv 4) pa_nil)) (pv 2) (nomark _)) (pss_one (ps_if (pt_cmpR op_isG (pv 5) pe_non (nomark _)) (pss_one (ps_asg (pe_cal c_law_into hr rfl (pa_cons (pv 0) (pa_cons (pv 1) (pa_cons (pv 3) (pa_cons (pv 4) pa_nil))))) (pg_tup rfl (pgs_cons (pg_name (i := 1) sc_law_come.nd rfl (by first | exact Or.inl rfl | exact Or.inr rfl)) (pgs_cons (pg_name (i := 5) sc_law_come.nd rfl (by first | exact Or.inl rfl | exact Or.inr rfl)) pgs_nil))))) (pss_one (ps_if (pt_cmpR (op_eqG (hu2_of hr)) (pv 3) (pe_lstN pa_nil) (nomark _)) (pss_one (ps_ret (pe_tupN (pa_cons pe_str (pa_cons (pv 5) (pa_cons (pv 4) pa_nil)))))) (pss_cons (ps_asg (pe_cal c_law_out hr rfl (pa_cons (pv 0) (pa_cons (pe_bm0 PySem.F.plainAttrs_list PySem.F.slot_list_pop PySem.F.type_list_pop mt_popG (pv 3)) (pa_cons (pv 5) (pa_cons (pv 3) (pa_cons (pv 4) pa_nil)))))) (pg_tup rfl (pgs_cons (pg_name (i := 1) sc_law_come.nd rfl (by first | exact Or.inl rfl | exact Or.inr rfl)) (pgs_cons (pg_name (i := 5) sc_law_come.nd rfl (by first | exact Or.inl rfl | exact Or.inr rfl)) (pgs_cons (pg_name (i := 6) sc_law_come.nd rfl (by first | exact Or.inl rfl | exact Or.inr rfl)) pgs_nil)))))
  (pss_one (ps_if (pt_cmpR (op_neG (hu2_of hr)) (pv 6) pe_str (nomark _)) (pss_one (ps_ret (pe_tupN (pa_cons pe_str (pa_cons (pv 6) (pa_cons (pv 4) pa_nil)))))) pss_nil))))))))
  (pss_one (ps_ret (pe_tupN (pa_cons pe_str (pa_cons pe_non (pa_cons (pe_slice sl_any (pv 4) po_none (po_some (pv 2))) pa_nil))))))))))
abbrev st_law_end : Stmt := topS 32
theorem sc_law_end : FnScope ["_law_pen_here", "_law_one", "_law_pair", "_law_great", "_law_some"] ["_law_pen_here"] (defScope st_law_end) := ⟨rfl, rfl, rfl, by decide +kernel, rfl, by decide +kernel, by decide +kernel⟩
theorem mk_law_end {P : Program} {w : World} {K : PySem.W.Frag} {mg : Str → Option Value} {base : Heap} (T : TX w K mg) {j : Nat} {sp : Sp} {s_law_draw : Sp} (c_law_draw : Cal P w K mg base j "_law_draw" s_law_draw)
    (pure_ : PureOk 1 sp (t_law_end K w s_law_draw) 5) : Cal P w K mg base (j + 1) "_law_end" sp := by
  obtain ⟨fd, F⟩ := T.d_law_end
  refine cal_mk F T.f_law_end sc_law_end (F.bindsN fun _ _ _ _ _ _ us hl => match us, hl with | [_], _ => rfl) pure_.len fun cdv A outer s H vs Q E hr h => ?_
  refine ⟨t_law_end K w s_law_draw, PSs.nox ?_, pure_.run vs H Q E h⟩
  exact (pss_cons (ps_par (i := 1) (j := 2) (by rfl) sc_law_end.nd rfl rfl (by decide) rfl rfl (pa_cons (pe_tupN (pa_cons pe_str (pa_cons (pe_cal c_law_draw hr rfl (pa_cons (pv 0) (pa_cons pe_int pa_nil))) pa_nil))) (pa_cons (pe_tupN (pa_cons pe_str (pa_cons (pe_tupN (pa_cons pe_str (pa_cons pe_int pa_nil))) (pa_cons (pe_tupN (pa_cons pe_str (pa_cons (pe_tupN (pa_cons pe_str (pa_cons pe_int pa_nil))) pa_nil))) pa_nil)))) pa_nil)) (by rfl))
  (pss_cons (ps_set (i := 3) sc_law_end.nd rfl (Or.inl rfl) (pe_tupN (pa_cons pe_str (pa_cons (pe_op op_sub (pe_op op_sub (pe_op op_pow pe_int pe_int) pe_int) (pe_cal c_law_draw hr rfl (pa_cons (pv 0) (pa_cons pe_int pa_nil)))) pa_nil))))
  (pss_cons (ps_set (i := 4) sc_law_end.nd rfl (Or.inl rfl) (pe_lstN (pa_cons (pv 1) (pa_cons (pv 2) (pa_cons (pe_tupN (pa_cons pe_str (pa_cons pe_str pa_nil))) (pa_cons (pe_tupN (pa_cons pe_str (pa_cons (pe_tupN (pa_cons pe_str (pa_cons pe_str pa_nil))) (pa_cons (pv 2) pa_nil)))) (pa_cons (pe_tupN (pa_cons pe_str (pa_cons pe_str pa_nil))) (pa_cons (pv 3) (pa_cons (pe_tupN (pa_cons pe_str (pa_cons (pe_op op_pow pe_int pe_int) pa_nil))) pa_nil)))))))))
  (pss_cons (ps_set (i := 4) sc_law_end.nd rfl (Or.inl rfl) (pe_op op_addG (pv 4) (pe_lstN (pa_cons (pe_tupN (pa_cons pe_str (pa_cons (pv 1) pa_nil))) (pa_cons (pe_tupN (pa_cons pe_str (pa_cons (pv 1) (pa_cons (pv 2) pa_nil)))) (pa_cons (pe_tupN (pa_cons pe_str (pa_cons (pv 2) (pa_cons (pv 1) pa_nil)))) (pa_cons (pe_tupN (pa_cons pe_str (pa_cons (pv 3) (pa_cons (pv 3) pa_nil)))) pa_nil)))))))
  (pss_cons (ps_set (i := 4) sc_law_end.nd rfl (Or.inl rfl) (pe_op op_addG (pv 4) (pe_lstN (pa_cons (pe_tupN (pa_cons pe_str (pa_cons (pe_tupN (pa_cons pe_str (pa_cons (pe_tupN (pa_cons pe_str (pa_cons pe_str pa_nil))) (pa_cons (pv 1) pa_nil)))) (pa_cons (pv 2) pa_nil)))) (pa_cons (pe_tupN (pa_cons pe_str (pa_cons (pe_tupN (pa_cons pe_str (pa_cons (pe_op op_pow pe_int pe_int) pa_nil))) (pa_cons (pe_tupN (pa_cons pe_str (pa_cons (pe_op op_pow pe_int pe_int) pa_nil))) pa_nil)))) pa_nil)))))
  (pss_cons (ps_set (i := 4) sc_law_end.nd rfl (Or.inl rfl) (pe_op op_addG (pv 4) (pe_lstN (pa_cons (pe_tupN (pa_cons pe_str (pa_cons (pv 2) (pa_cons (pv 1) (pa_cons (pv 1) pa_nil))))) (pa_cons (pe_tupN (pa_cons pe_str (pa_cons (pv 1) (pa_cons (pv 3) pa_nil)))) (pa_cons (pe_tupN (pa_cons pe_str (pa_cons (pv 2) pa_nil))) (pa_cons (pe_tupN (pa_cons pe_str (pa_cons (pv 2) pa_nil))) pa_nil)))))))
  (pss_cons (ps_set (i := 4) sc_law_end.nd rfl (Or.inl rfl) (pe_op op_addG (pv 4) (pe_lstN (pa_cons (pe_tupN (pa_cons pe_str (pa_cons (pv 1) (pa_cons (pv 3) pa_nil)))) (pa_cons (pe_tupN (pa_cons pe_str (pa_cons (pv 1) (pa_cons (pv 2) pa_nil)))) pa_nil)))))
  (pss_one (ps_ret (pe_ixG (hu_of hr) (pv 4) (pe_cal c_law_draw hr rfl (pa_cons (pv 0) (pa_cons (pe_callB call_lenG (by rfl) T.n_len (by decide +kernel) (pa_cons (pv 4) pa_nil)) pa_nil))) (fun _ _ => rfl)))))))))))
abbrev st_law_mixed : Stmt := topS 33
theorem sc_law_mixed : FnScope ["_law_pen_here", "_law_deep", "_law_stock", "_law_kind", "_law_one", "_law_other", "_law_name"] ["_law_pen_here", "_law_deep", "_law_stock"] (defScope st_law_mixed) := ⟨rfl, rfl, rfl, by decide +kernel, rfl, by decide +kernel, by decide +kernel⟩
theorem mk_law_mixed {P : Program} {w : World} {K : PySem.W.Frag} {mg : Str → Option Value} {base : Heap} (T : TX w K mg) {j : Nat} {sp : Sp} {s_law_end s_law_draw s_law_mixed : Sp} (c_law_end : Cal P w K mg base j "_law_end" s_law_end) (c_law_draw : Cal P w K mg base j "_law_draw" s_law_draw) (c_law_mixed : Cal P w K mg base j "_law_mixed" s_law_mixed)
    (pure_ : PureOk 3 sp (t_law_mixed K w s_law_end s_law_draw s_law_mixed) 7) : Cal P w K mg base (j + 1) "_law_mixed" sp := by
  obtain ⟨fd, F⟩ := T.d_law_mixed
  refine cal_mk F T.f_law_mixed sc_law_mixed (F.bindsN fun _ _ _ _ _ _ us hl => match us, hl with | [_, _, _], _ => rfl) pure_.len fun cdv A outer s H vs Q E hr h => ?_
  refine ⟨t_law_mixed K w s_law_end s_law_draw s_law_mixed, PSs.nox ?_, pure_.run vs H Q E h⟩
  exact (pss_cons (ps_if (pt_cmpR (op_eqG (hu2_of hr)) (pv 1) pe_int (nomark _)) (pss_one (ps_ret (pe_cal c_law_end hr rfl (pa_cons (pv 0) pa_nil)))) pss_nil)
  (pss_cons (ps_set (i := 3) sc_law_mixed.nd rfl (Or.inl rfl) (pe_ixG (hu_of hr) (pe_lstN (pa_cons pe_str (pa_cons pe_str (pa_cons pe_str (pa_cons pe_str (pa_cons pe_str (pa_cons pe_str (pa_cons pe_str (pa_cons pe_str (pa_cons pe_str (pa_cons pe_str pa_nil))))))))))) (pe_cal c_law_draw hr rfl (pa_cons (pv 0) (pa_cons pe_int pa_nil))) (fun _ _ => rfl)))
  (pss_cons (ps_set (i := 4) sc_law_mixed.nd rfl (Or.inl rfl) (pe_cal c_law_mixed hr rfl (pa_cons (pv 0) (pa_cons (pe_op op_sub (pv 1) pe_int) (pa_cons (pv 2) pa_nil)))))
  (pss_cons (ps_if (pt_cmpR (op_inG (hu_of hr)) (pv 3) (pe_tupN (pa_cons pe_str (pa_cons pe_str pa_nil))) (by rfl)) (pss_one (ps_ret (pe_tupN (pa_cons (pv 3) (pa_cons (pv 4) pa_nil))))) pss_nil)
  (pss_cons (ps_set (i := 5) sc_law_mixed.nd rfl (Or.inl rfl) (pe_cal c_law_mixed hr rfl (pa_cons (pv 0) (pa_cons (pe_op op_sub (pv 1) pe_int) (pa_cons (pv 2) pa_nil)))))
  (pss_cons (ps_if (pt_cmpR (op_eqG (hu2_of hr)) (pv 3) pe_str (nomark _)) (pss_cons (ps_set (i := 6) sc_law_mixed.nd rfl (Or.inl rfl) (pe_bm0 PySem.F.plainAttrs_list PySem.F.slot_list_pop PySem.F.type_list_pop mt_popG (pv 2)))
  (pss_one (ps_ret (pe_tupN (pa_cons pe_str (pa_cons (pe_tupN (pa_cons (pe_tupN (pa_cons (pv 6) (pa_cons (pv 4) pa_nil))) pa_nil)) (pa_cons (pe_tupN (pa_cons pe_str (pa_cons (pe_tupN (pa_cons pe_str (pa_cons (pv 6) pa_nil))) (pa_cons (pv 5) pa_nil)))) pa_nil))))))) pss_nil)
  (pss_one (ps_ret (pe_ifExp (pt_cmpR (op_eqG (hu2_of hr)) (pv 3) pe_str (nomark _)) (pe_tupN (pa_cons (pv 3) (pa_cons (pv 4) (pa_cons (pv 5) (pa_cons (pe_cal c_law_end hr rfl (pa_cons (pv 0) pa_nil)) pa_nil))))) (pe_tupN (pa_cons (pv 3) (pa_cons (pv 4) (pa_cons (pv 5) pa_nil)))))))))))))
abbrev st_law : Stmt := topS 34
theorem sc_law : FnScope ["_law_script", "_law_pen_here", "_law_functions", "_law_turn", "_law_part", "_law_program", "_law_word", "_law_what", "_law_words", "_law_due"] ["_law_script"] (defScope st_law) := ⟨rfl, rfl, rfl, by decide +kernel, rfl, by decide +kernel, by decide +kernel⟩
theorem mkl_law {P : Program} {w : World} {K : PySem.W.Frag} {mg : Str → Option Value} {base : Heap} {fd : FuncData} (F : FunD K "law" "law" (defArgs (topS 34)) (defBody (topS 34)) (defScope (topS 34)) [] [] (He.ga K "law") fd) (T : TX w K mg) {j : Nat} {sp : Sp} {s_law_pen s_law_mixed s_law_draw s_law_come s_led : Sp} (c_law_pen : Cal P w K mg base j "_law_pen" s_law_pen) (c_law_mixed : Cal P w K mg base j "_law_mixed" s_law_mixed) (c_law_draw : Cal P w K mg base j "_law_draw" s_law_draw) (c_law_come : Cal P w K mg base j "_law_come" s_law_come) (c_led : Cal P w K mg base j "led" s_led)
    (pure_ : PureOk 1 sp (t_law K w s_law_pen s_law_mixed s_law_draw s_law_come s_led) 10) : FnOk P w K mg base CX0 (j + 1) (He.ga K "law") fd ["_law_script"] sp := by
  refine F.ok sc_law pure_.len fun cdv A outer s H vs Q E hr h => ?_
  refine ⟨t_law K w s_law_pen s_law_mixed s_law_draw s_law_come s_led, PSs.nox ?_, pure_.run vs H Q E h⟩
  exact (pss_cons (ps_set (i := 1) sc_law.nd rfl (Or.inl rfl) (pe_cal c_law_pen hr rfl (pa_cons (pv 0) pa_nil)))
  (pss_cons (ps_set (i := 2) sc_law.nd rfl (Or.inl rfl) (pe_tupN (pa_cons (pe_tupN (pa_cons pe_str (pa_cons (pe_tupN (pa_cons pe_str (pa_cons pe_str pa_nil))) (pa_cons (pe_tupN (pa_cons pe_str (pa_cons (pe_tupN (pa_cons pe_str (pa_cons pe_str pa_nil))) (pa_cons (pe_tupN (pa_cons pe_str (pa_cons pe_str pa_nil))) pa_nil)))) pa_nil)))) (pa_cons (pe_tupN (pa_cons pe_str (pa_cons (pe_tupN pa_nil) (pa_cons (pe_tupN (pa_cons pe_str (pa_cons pe_str pa_nil))) pa_nil)))) pa_nil))))
  (pss_cons (ps_for PassesOwn.never rfl (pi_range1 (by rfl) T.n_range (pa_cons (pe_callB (call_max2 rfl) (by rfl) T.n_max (by decide +kernel) (pa_cons pe_int (pa_cons (pe_callB (call_min2 rfl) (by rfl) T.n_min (by decide +kernel) (pa_cons pe_int (pa_cons (pe_callB call_lenG (by rfl) T.n_len (by decide +kernel) (pa_cons (pv 0) pa_nil)) pa_nil))) pa_nil))) pa_nil)) (pg_name (i := 3) sc_law.nd rfl (by first | exact Or.inl rfl | exact Or.inr rfl)) (pss_cons (ps_set (i := 4) sc_law.nd rfl (Or.inl rfl) (pe_cal c_law_mixed hr rfl (pa_cons (pv 1) (pa_cons (pe_op op_addG pe_int (pe_cal c_law_draw hr rfl (pa_cons (pv 1) (pa_cons pe_int pa_nil)))) (pa_cons (pe_lstN (pa_cons pe_str (pa_cons pe_str (pa_cons pe_str pa_nil)))) pa_nil)))))
  (pss_cons (ps_set (i := 5) sc_law.nd rfl (Or.inl rfl) (pe_tupN (pa_cons (pv 2) (pa_cons (pv 4) pa_nil))))
  (pss_cons (ps_asg (pe_cal c_law_come hr rfl (pa_cons (pv 5) (pa_cons (pe_tupN (pa_cons (pv 4) (pa_cons pe_dnewKN pa_nil))) (pa_cons pe_int pa_nil)))) (pg_tup rfl (pgs_cons (pg_name (i := 6) sc_law.nd rfl (by first | exact Or.inl rfl | exact Or.inr rfl)) (pgs_cons (pg_name (i := 7) sc_law.nd rfl (by first | exact Or.inl rfl | exact Or.inr rfl)) (pgs_cons (pg_name (i := 8) sc_law.nd rfl (by first | exact Or.inl rfl | exact Or.inr rfl)) pgs_nil)))))
  (pss_cons (ps_set (i := 9) sc_law.nd rfl (Or.inl rfl) (pe_ifExp (pt_cmpR (op_eqG (hu2_of hr)) (pv 6) pe_str (nomark _)) (pe_tupN (pa_cons (pv 6) pa_nil)) (pe_tupN (pa_cons pe_str (pa_cons (pv 7) pa_nil)))))
  (pss_cons (ps_if (pt_cmpR (op_eqG (hu2_of hr)) (pv 6) pe_str (nomark _)) (pss_one (ps_set (i := 9) sc_law.nd rfl (Or.inl rfl) (pe_ifExp (pt_cmpR (op_eqG (hu2_of hr)) (pe_ixG (hu_of hr) (pv 7) pe_int (fun _ _ => rfl)) pe_str (nomark _)) (pv 7) (pe_tupN (pa_cons pe_str pa_nil))))) pss_nil)
  (pss_cons (ps_if (PW.pt (pw_and (pt_cmpR (op_eqG (hu2_of hr)) (pv 6) pe_str (nomark _)) (pw_and1 (pt_cmpR (op_eqG (hu2_of hr)) (pe_ixG (hu_of hr) (pv 7) pe_int (fun _ _ => rfl)) pe_str (nomark _))))) (pss_one (ps_set (i := 9) sc_law.nd rfl (Or.inl rfl) (pe_tupN (pa_cons pe_str (pa_cons (pe_ixG (hu_of hr) (pv 7) pe_int (fun _ _ => rfl)) (pa_cons (pe_callB call_lenG (by rfl) T.n_len (by decide +kernel) (pa_cons (pe_ixG (hu_of hr) (pv 7) pe_int (fun _ _ => rfl)) pa_nil)) pa_nil)))))) pss_nil)
  (pss_one (ps_if (pt_cmpR (op_neG (hu2_of hr)) (pe_cal c_led hr rfl (pa_cons (pv 5) (pa_cons (pv 4) (pa_cons pe_int pa_nil)))) (pe_tupN (pa_cons (pv 9) (pa_cons (pv 8) pa_nil))) (nomark _)) (pss_one (ps_ret pe_bl)) pss_nil)))))))))
  (pss_one (ps_ret pe_bl)))))
theorem nv_put_in {P : Program} {w : World} {K : PySem.W.Frag} {mg : Str → Option Value} {base : Heap} (T : TX w K mg) {sp : Sp} (no : ∀ vs H Q E, ¬ sp vs H Q E) : Cal P w K mg base 1 "put_in" sp := by
  obtain ⟨fd, F⟩ := T.d_put_in
  exact cal_mk F T.f_put_in sc_put_in (F.bindsN fun _ _ _ _ _ _ us hl => match us, hl with | [_, _], _ => rfl) (fun vs H Q E h => (no _ _ _ _ h).elim) fun cdv A outer s H vs Q E hr h => (no _ _ _ _ h).elim
theorem nv_law_mixed {P : Program} {w : World} {K : PySem.W.Frag} {mg : Str → Option Value} {base : Heap} (T : TX w K mg) {sp : Sp} (no : ∀ vs H Q E, ¬ sp vs H Q E) : Cal P w K mg base 1 "_law_mixed" sp := by
  obtain ⟨fd, F⟩ := T.d_law_mixed
  exact cal_mk F T.f_law_mixed sc_law_mixed (F.bindsN fun _ _ _ _ _ _ us hl => match us, hl with | [_, _, _], _ => rfl) (fun vs H Q E h => (no _ _ _ _ h).elim) fun cdv A outer s H vs Q E hr h => (no _ _ _ _ h).elim
/-! ### the head -/
def dd (x : Str) (i : Nat) : He.DefD := ⟨(x, none), x, x, defArgs (topS i), defBody (topS i), defScope (topS i), [], []⟩
def hfn : List He.DefD := [dd "is_small" 3, dd "bodies" 5, dd "number_of" 6, dd "things_of" 7, dd "wants" 8, dd "body_of" 9, dd "put_in" 11, dd "spine" 12, dd "is_worth" 13, dd "strict_at" 14, dd "reckoned" 15, dd "of_numbers" 16, dd "called" 17, dd "own_step" 18, dd "shown" 20, dd "come_to" 21, dd "led" 22, dd "_law_pen" 24, dd "_law_draw" 25, dd "_law_called" 26, dd "_law_wants" 27, dd "_law_into" 28, dd "_law_second" 29, dd "_law_out" 30, dd "_law_come" 31, dd "_law_end" 32, dd "_law_mixed" 33, dd "law" 34]
def hfa : List He.Fa := [.glo "is_small", .glo "bodies", .glo "number_of", .glo "things_of", .glo "wants", .glo "body_of", .glo "put_in", .glo "spine", .glo "is_worth", .glo "strict_at", .glo "reckoned", .glo "of_numbers", .glo "called", .glo "own_step", .glo "shown", .glo "come_to", .glo "led", .glo "_law_pen", .glo "_law_draw", .glo "_law_called", .glo "_law_wants", .glo "_law_into", .glo "_law_second", .glo "_law_out", .glo "_law_come", .glo "_law_end", .glo "_law_mixed", .glo "law", .free "abs", .free "len", .free "tuple", .free "int", .free "dict", .free "zip", .free "list", .free "max", .free "min", .free "range", .glo "PARTS", .glo "OPERATIONS"]
def hts : List He.Tab := [((fun K => He.ga K "PARTS"), ["give", "plus", "less", "times", "below", "when", "pair", "left", "right"])]
def hex (K : PySem.W.Frag) : Bool := He.valsB K (He.ga K "PARTS") [("give", .int 2), ("plus", .int 2), ("less", .int 2), ("times", .int 2), ("below", .int 2), ("when", .int 3), ("pair", .int 2), ("left", .int 1), ("right", .int 1)] && He.tupB K "OPERATIONS" [.str "plus", .str "less", .str "times", .str "below"]
abbrev hR : PySem.W.OpenRow := PySem.W.OpenLaw.row PySem.Challenge.rw_lazywebs_k11_faults_in_their_order
abbrev hk : PySem.W.Hook := He.hookX 5 hfa hfn hts [] hex
def ob (s : PySem.W.SharedT) : He.AlX := He.obsX 5 hfa hfn hts [] hex (HandSHeadRun.getT s)
theorem ob_eq (s : PySem.W.SharedT) : ob s = hk.obs s.abs := He.obsX_eq (HandSHeadRun.getT_eq s)
def loose0 : List Str := ["PARTS", "OPERATIONS", "is_small", "bodies", "number_of", "things_of", "wants", "body_of", "put_in", "spine", "is_worth", "strict_at", "reckoned", "of_numbers", "called", "own_step", "shown", "come_to", "led", "_law_pen", "_law_draw", "_law_called", "_law_wants", "_law_into", "_law_second", "_law_out", "_law_come", "_law_end", "_law_mixed"]
def hloose : List Str := loose0
theorem hrun (w : World) : HandSHeadRun.RunEq hR (PySem.W.view hR.prog [34]) hk ob 3000 hloose w :=
  PySem.W.byRow2 "special-get-raises" (P := fun w => HandSHeadRun.RunEq hR (PySem.W.view hR.prog [34]) hk ob 3000 hloose w) (fun w os => by kernel_rfl) (fun w os => by kernel_rfl) w
theorem tx_mk {w : World} {K : PySem.W.Frag} {h h2 : Heap} {mg : Str → Option Value} (X : K.In h) (G : h.Ns mainGlobals mg) (c : He.SaysX hfa hfn hts [] hex w h2 K) : TX w K mg := by
  have hm := c.more
  unfold hex at hm
  simp only [Bool.and_eq_true] at hm
  exact {
    d_is_small := c.t.d.def_ 0 rfl
    f_is_small := He.glo_ok X G (c.t.d.fact 0 (f := .glo "is_small") rfl)
    d_bodies := c.t.d.def_ 1 rfl
    f_bodies := He.glo_ok X G (c.t.d.fact 1 (f := .glo "bodies") rfl)
    d_number_of := c.t.d.def_ 2 rfl
    f_number_of := He.glo_ok X G (c.t.d.fact 2 (f := .glo "number_of") rfl)
    d_things_of := c.t.d.def_ 3 rfl
    f_things_of := He.glo_ok X G (c.t.d.fact 3 (f := .glo "things_of") rfl)
    d_wants := c.t.d.def_ 4 rfl
    f_wants := He.glo_ok X G (c.t.d.fact 4 (f := .glo "wants") rfl)
    d_body_of := c.t.d.def_ 5 rfl
    f_body_of := He.glo_ok X G (c.t.d.fact 5 (f := .glo "body_of") rfl)
    d_put_in := c.t.d.def_ 6 rfl
    f_put_in := He.glo_ok X G (c.t.d.fact 6 (f := .glo "put_in") rfl)
    d_spine := c.t.d.def_ 7 rfl
    f_spine := He.glo_ok X G (c.t.d.fact 7 (f := .glo "spine") rfl)
    d_is_worth := c.t.d.def_ 8 rfl
    f_is_worth := He.glo_ok X G (c.t.d.fact 8 (f := .glo "is_worth") rfl)
    d_strict_at := c.t.d.def_ 9 rfl
    f_strict_at := He.glo_ok X G (c.t.d.fact 9 (f := .glo "strict_at") rfl)
    d_reckoned := c.t.d.def_ 10 rfl
    f_reckoned := He.glo_ok X G (c.t.d.fact 10 (f := .glo "reckoned") rfl)
    d_of_numbers := c.t.d.def_ 11 rfl
    f_of_numbers := He.glo_ok X G (c.t.d.fact 11 (f := .glo "of_numbers") rfl)
    d_called := c.t.d.def_ 12 rfl
    f_called := He.glo_ok X G (c.t.d.fact 12 (f := .glo "called") rfl)
    d_own_step := c.t.d.def_ 13 rfl
    f_own_step := He.glo_ok X G (c.t.d.fact 13 (f := .glo "own_step") rfl)
    d_shown := c.t.d.def_ 14 rfl
    f_shown := He.glo_ok X G (c.t.d.fact 14 (f := .glo "shown") rfl)
    d_come_to := c.t.d.def_ 15 rfl
    f_come_to := He.glo_ok X G (c.t.d.fact 15 (f := .glo "come_to") rfl)
    d_led := c.t.d.def_ 16 rfl
    f_led := He.glo_ok X G (c.t.d.fact 16 (f := .glo "led") rfl)
    d_law_pen := c.t.d.def_ 17 rfl
    f_law_pen := He.glo_ok X G (c.t.d.fact 17 (f := .glo "_law_pen") rfl)
    d_law_draw := c.t.d.def_ 18 rfl
    f_law_draw := He.glo_ok X G (c.t.d.fact 18 (f := .glo "_law_draw") rfl)
    d_law_called := c.t.d.def_ 19 rfl
    f_law_called := He.glo_ok X G (c.t.d.fact 19 (f := .glo "_law_called") rfl)
    d_law_wants := c.t.d.def_ 20 rfl
    f_law_wants := He.glo_ok X G (c.t.d.fact 20 (f := .glo "_law_wants") rfl)
    d_law_into := c.t.d.def_ 21 rfl
    f_law_into := He.glo_ok X G (c.t.d.fact 21 (f := .glo "_law_into") rfl)
    d_law_second := c.t.d.def_ 22 rfl
    f_law_second := He.glo_ok X G (c.t.d.fact 22 (f := .glo "_law_second") rfl)
    d_law_out := c.t.d.def_ 23 rfl
    f_law_out := He.glo_ok X G (c.t.d.fact 23 (f := .glo "_law_out") rfl)
    d_law_come := c.t.d.def_ 24 rfl
    f_law_come := He.glo_ok X G (c.t.d.fact 24 (f := .glo "_law_come") rfl)
    d_law_end := c.t.d.def_ 25 rfl
    f_law_end := He.glo_ok X G (c.t.d.fact 25 (f := .glo "_law_end") rfl)
    d_law_mixed := c.t.d.def_ 26 rfl
    f_law_mixed := He.glo_ok X G (c.t.d.fact 26 (f := .glo "_law_mixed") rfl)
    d_law := c.t.d.def_ 27 rfl
    f_law := He.glo_ok X G (c.t.d.fact 27 (f := .glo "law") rfl)
    n_abs := He.free_ok X G (c.t.d.fact 28 (f := .free "abs") rfl)
    n_len := He.free_ok X G (c.t.d.fact 29 (f := .free "len") rfl)
    n_tuple := He.free_ok X G (c.t.d.fact 30 (f := .free "tuple") rfl)
    n_int := He.free_ok X G (c.t.d.fact 31 (f := .free "int") rfl)
    n_dict := He.free_ok X G (c.t.d.fact 32 (f := .free "dict") rfl)
    n_zip := He.free_ok X G (c.t.d.fact 33 (f := .free "zip") rfl)
    n_list := He.free_ok X G (c.t.d.fact 34 (f := .free "list") rfl)
    n_max := He.free_ok X G (c.t.d.fact 35 (f := .free "max") rfl)
    n_min := He.free_ok X G (c.t.d.fact 36 (f := .free "min") rfl)
    n_range := He.free_ok X G (c.t.d.fact 37 (f := .free "range") rfl)
    g_PARTS := He.glo_ok X G (c.t.d.fact 38 (f := .glo "PARTS") rfl)
    k_PARTS := ktab_of (kvs := [("give", .int 2), ("plus", .int 2), ("less", .int 2), ("times", .int 2), ("below", .int 2), ("when", .int 3), ("pair", .int 2), ("left", .int 1), ("right", .int 1)]) (tab_at c.t 0 rfl) hm.1
    g_OPERATIONS := He.glo_ok X G (c.t.d.fact 39 (f := .glo "OPERATIONS") rfl)
    t_OPERATIONS := fun H => He.tupB_ok hm.2 H
  }
section
variable {P : Program} {w : World} {K : PySem.W.Frag} {mg : Str → Option Value} {base : Heap}
theorem law_ok (T : TX w K mg) {fd : FuncData} (F : FunD K "law" "law" (defArgs (topS 34)) (defBody (topS 34)) (defScope (topS 34)) [] [] (He.ga K "law") fd) : FnOk P w K mg base CX0 18 (He.ga K "law") fd ["_law_script"] (spLaw K) := by
  have c_law_pen : Cal P w K mg base 1 "_law_pen" (spPen K) := mk_law_pen (j := 0) T  (pure_pen)
  have c_law_draw : Cal P w K mg base 1 "_law_draw" (spDraw) := mk_law_draw (j := 0) T  (pure_draw)
  have c_law_end : Cal P w K mg base 2 "_law_end" (spEnd) := mk_law_end (j := 1) T (c_law_draw.mono (by decide)) (pure_end)
  have c_law_mixed_0 : Cal P w K mg base 1 "_law_mixed" (spMixed 0) := nv_law_mixed T (fun vs H Q E ⟨_, _, _, _, _, _, _, _, _, _, _, _, _, h, _⟩ => absurd h (Nat.not_lt_zero _))
  have c_law_mixed_1 : Cal P w K mg base 3 "_law_mixed" (spMixed 1) := mk_law_mixed (j := 2) T (c_law_end.mono (by decide)) (c_law_draw.mono (by decide)) (c_law_mixed_0.mono (by decide)) (pure_mixed)
  have c_law_mixed_2 : Cal P w K mg base 4 "_law_mixed" (spMixed 2) := mk_law_mixed (j := 3) T (c_law_end.mono (by decide)) (c_law_draw.mono (by decide)) (c_law_mixed_1.mono (by decide)) (pure_mixed)
  have c_law_mixed_3 : Cal P w K mg base 5 "_law_mixed" (spMixed 3) := mk_law_mixed (j := 4) T (c_law_end.mono (by decide)) (c_law_draw.mono (by decide)) (c_law_mixed_2.mono (by decide)) (pure_mixed)
  have c_law_mixed := c_law_mixed_3
  have c_law_wants : Cal P w K mg base 1 "_law_wants" (spLWants) := mk_law_wants (j := 0) T  (pure_lwants)
  have c_law_called : Cal P w K mg base 1 "_law_called" (spLCalled) := mk_law_called (j := 0) T  (pure_lcalled)
  have c_law_into : Cal P w K mg base 2 "_law_into" (spLInto) := mk_law_into (j := 1) T (c_law_wants.mono (by decide)) (c_law_called.mono (by decide)) (pure_linto)
  have c_law_second : Cal P w K mg base 1 "_law_second" (spLSecond) := mk_law_second (j := 0) T  (pure_lsecond)
  have c_law_out : Cal P w K mg base 2 "_law_out" (spLOut) := mk_law_out (j := 1) T (c_law_second.mono (by decide)) (c_law_wants.mono (by decide)) (c_law_called.mono (by decide)) (pure_lout)
  have c_law_come : Cal P w K mg base 3 "_law_come" (spLCome) := mk_law_come (j := 2) T (c_law_into.mono (by decide)) (c_law_out.mono (by decide)) (pure_lcome)
  have c_spine : Cal P w K mg base 1 "spine" (spSpineB) := mk_spine (j := 0) T  (pure_spineB)
  have c_number_of : Cal P w K mg base 1 "number_of" (spNum) := mk_number_of (j := 0) T  (pure_num)
  have c_things_of : Cal P w K mg base 2 "things_of" (spThings) := mk_things_of (j := 1) T (c_number_of.mono (by decide)) (pure_things)
  have c_wants : Cal P w K mg base 3 "wants" (spWants) := mk_wants (j := 2) T (c_things_of.mono (by decide)) (pure_wants)
  have c_is_worth : Cal P w K mg base 4 "is_worth" (spWorthB) := mk_is_worth (j := 3) T (c_spine.mono (by decide)) (c_wants.mono (by decide)) (pure_worthB)
  have c_strict_at : Cal P w K mg base 5 "strict_at" (spStrict) := mk_strict_at (j := 4) T (c_is_worth.mono (by decide)) (pure_strict T.t_OPERATIONS)
  have c_reckoned : Cal P w K mg base 1 "reckoned" (spReck) := mk_reckoned (j := 0) T  (pure_reck)
  have c_is_small : Cal P w K mg base 1 "is_small" (spSmall) := mk_is_small (j := 0) T  (pure_small)
  have c_of_numbers : Cal P w K mg base 2 "of_numbers" (spOfNum) := mk_of_numbers (j := 1) T (c_reckoned.mono (by decide)) (c_is_small.mono (by decide)) (pure_ofnum)
  have c_put_in_0 : Cal P w K mg base 1 "put_in" (spPut 0) := nv_put_in T (fun vs H Q E ⟨_, p, _, _, _, _, h, _⟩ => by have := p.mxd_kids; omega)
  have c_put_in_1 : Cal P w K mg base 2 "put_in" (spPut 1) := mk_put_in (j := 1) T (c_put_in_0.mono (by decide)) (pure_putin T.k_PARTS)
  have c_put_in_2 : Cal P w K mg base 3 "put_in" (spPut 2) := mk_put_in (j := 2) T (c_put_in_1.mono (by decide)) (pure_putin T.k_PARTS)
  have c_put_in_3 : Cal P w K mg base 4 "put_in" (spPut 3) := mk_put_in (j := 3) T (c_put_in_2.mono (by decide)) (pure_putin T.k_PARTS)
  have c_put_in_4 : Cal P w K mg base 5 "put_in" (spPut 4) := mk_put_in (j := 4) T (c_put_in_3.mono (by decide)) (pure_putin T.k_PARTS)
  have c_put_in_5 : Cal P w K mg base 6 "put_in" (spPut 5) := mk_put_in (j := 5) T (c_put_in_4.mono (by decide)) (pure_putin T.k_PARTS)
  have c_put_in_6 : Cal P w K mg base 7 "put_in" (spPut 6) := mk_put_in (j := 6) T (c_put_in_5.mono (by decide)) (pure_putin T.k_PARTS)
  have c_put_in_7 : Cal P w K mg base 8 "put_in" (spPut 7) := mk_put_in (j := 7) T (c_put_in_6.mono (by decide)) (pure_putin T.k_PARTS)
  have c_put_in_8 : Cal P w K mg base 9 "put_in" (spPut 8) := mk_put_in (j := 8) T (c_put_in_7.mono (by decide)) (pure_putin T.k_PARTS)
  have c_put_in_9 : Cal P w K mg base 10 "put_in" (spPut 9) := mk_put_in (j := 9) T (c_put_in_8.mono (by decide)) (pure_putin T.k_PARTS)
  have c_put_in_10 : Cal P w K mg base 11 "put_in" (spPut 10) := mk_put_in (j := 10) T (c_put_in_9.mono (by decide)) (pure_putin T.k_PARTS)
  have c_put_in_11 : Cal P w K mg base 12 "put_in" (spPut 11) := mk_put_in (j := 11) T (c_put_in_10.mono (by decide)) (pure_putin T.k_PARTS)
  have c_put_in_12 : Cal P w K mg base 13 "put_in" (spPut 12) := mk_put_in (j := 12) T (c_put_in_11.mono (by decide)) (pure_putin T.k_PARTS)
  have c_put_in := c_put_in_12
  have c_bodies : Cal P w K mg base 1 "bodies" (spBodies2) := mk_bodies (j := 0) T  (pure_bodies2)
  have c_body_of : Cal P w K mg base 2 "body_of" (spBodyOf) := mk_body_of (j := 1) T (c_bodies.mono (by decide)) (c_number_of.mono (by decide)) (pure_bodyof)
  have c_called : Cal P w K mg base 14 "called" (spCalled) := mk_called (j := 13) T (c_spine.mono (by decide)) (c_put_in.mono (by decide)) (c_things_of.mono (by decide)) (c_body_of.mono (by decide)) (pure_called)
  have c_own_step : Cal P w K mg base 15 "own_step" (spOwn) := mk_own_step (j := 14) T (c_of_numbers.mono (by decide)) (c_called.mono (by decide)) (c_put_in.mono (by decide)) (pure_own T.t_OPERATIONS)
  have c_come_to : Cal P w K mg base 16 "come_to" (spCome) := mk_come_to (j := 15) T (c_is_worth.mono (by decide)) (c_strict_at.mono (by decide)) (c_own_step.mono (by decide)) (pure_come)
  have c_shown : Cal P w K mg base 2 "shown" (spShown) := mk_shown (j := 1) T (c_spine.mono (by decide)) (pure_shown)
  have c_led : Cal P w K mg base 17 "led" (spLed) := mk_led (j := 16) T (c_come_to.mono (by decide)) (c_shown.mono (by decide)) (pure_led)
  exact mkl_law (j := 17) F T (c_law_pen.mono (by decide)) (c_law_mixed.mono (by decide)) (c_law_draw.mono (by decide)) (c_law_come.mono (by decide)) (c_led.mono (by decide)) (pure_law)
end
end Lz
open PySem PySem.W PySem.Calls PyProof.Rows
theorem PySem.Challenge.cw_lazywebs_k11_faults_in_their_order_holds : PySem.Challenge.rw_lazywebs_k11_faults_in_their_order.Holds := by
  w_on; o_law
  refine HandSHeadRun.head_any (r := OpenLaw.row PySem.Challenge.rw_lazywebs_k11_faults_in_their_order) (q := view (OpenLaw.row PySem.Challenge.rw_lazywebs_k11_faults_in_their_order).prog [34]) (H := Lz.hk) (ob := Lz.ob) (M := 3000) (loose := Lz.hloose) (d := HandSHeadRun.topDef (OpenLaw.row PySem.Challenge.rw_lazywebs_k11_faults_in_their_order).prog 34) (kwd := []) Lz.ob_eq
    (by kernel_rfl) (fun s => by kernel_rfl) Lz.hrun (by kernel_rfl) (by kernel_rfl) (by kernel_rfl) (by rfl) (by first | assumption | decide +kernel) (by decide +kernel) ⟨rfl, rfl, rfl, rfl, rfl, by decide +kernel⟩ ?hw ?hc
  case hw => w_witness2
  case hc =>
    refine L2.walk_ofE (l := PySem.Challenge.rw_lazywebs_k11_faults_in_their_order) (n := 63) (k := 18) (x := "_law_script") (CX := L2.CX0) rfl (by decide) (by kernel_rfl) ⟨rfl, by decide, by decide⟩ ?F (fun _ _ _ _ z => z)
    intro w mg fa h Y G hmg0
    obtain ⟨K, KX, c⟩ := Y
    have T := Lz.tx_mk KX G c
    have hmg : mg ("law" : PySem.Str) = some (.ref fa) := by
      have e : (HandSHeadRun.topDef (OpenLaw.row PySem.Challenge.rw_lazywebs_k11_faults_in_their_order).prog 34).name = ("law" : PySem.Str) := by kernel_rfl
      rw [← e]
      exact hmg0
    have e := hmg.symm.trans T.f_law
    cases e
    obtain ⟨fd, F⟩ := T.d_law
    have b := L2.FunD.bindsA (ps := ["_law_script"]) F fun _ _ _ _ _ _ us hl => match us, hl with | [_], _ => rfl
    exact ⟨K, fd, Lz.spLaw K, KX, fun s u => b s [u] rfl, fun H a ns hl _ hS => ⟨a, ns, rfl, hS, hl, fun _ => rfl⟩, fun base _ _ => Lz.law_ok T F⟩
#print axioms PySem.Challenge.cw_lazywebs_k11_faults_in_their_order_holds
